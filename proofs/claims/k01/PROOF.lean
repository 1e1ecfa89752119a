import PyProof.Rows.All
import Wide.All
import OpenK.AllK
import Wide.FinOn
import PySem.Challenge.RW_statstack_k01_numbers_in_least_terms
import HandS.ForMost
import HandS.ForExc
import HandS.EndTab
import HandS.AnyAll
import HandS.Wide
import HandS.SortKw
import HandS.HeadHook4
import HandS.HeadWalk
import HandS.Head2
import HandS.Evl
import HandS.More
import HandS.Defaults
import HandS.Text
import HandS.SortInts
import HandS.SortRule
import HandS.StrMore
import PyProof.TupleOfSeq
import HandS.Iter
import HandS.Zip
import HandS.ExcOwn
import HandS.TupAny
import PyProof.StrOps2
import HandS.Lambda
import HandS.Deep
import HandS.Codes
set_option Elab.async false
set_option linter.all false
set_option maxRecDepth 100000
set_option maxHeartbeats 2000000
namespace Wl
open PySem PySem.Spec PyProof.Rows L2
/-! ### 1. wishes -/
def W (α : Type) : Type := (α → Prop) → (Str → Prop) → Prop
def W.ret {α : Type} (x : α) : W α := fun Q _ => Q x
def W.bd {α β : Type} (m : W α) (f : α → W β) : W β := fun Q E => m (fun x => f x Q E) E
def W.err {α : Type} (c : Str) : W α := fun _ E => E c
def W.need {α : Type} (p : Prop) (m : W α) : W α := fun Q E => p ∧ m Q E
/-! ### 2. the frozen part of the heap -/
inductive FO where
  | obj (o : HO)
  | dice
  | tab (q : Str)
  | tabg
abbrev Fh := Addr → Option FO
def updF (F : Fh) (a : Addr) (o : FO) : Fh := fun b => if b = a then some o else F b
theorem updF_same {F : Fh} {a : Addr} {o : FO} : updF F a o a = some o := if_pos rfl
theorem updF_ne {F : Fh} {a b : Addr} {o : FO} (h : b ≠ a) : updF F a o b = F b := if_neg h
def un (F : Fh) : Hp := fun a => match F a with
  | some (.obj o) => some o
  | _ => none
theorem un_iff {F : Fh} {a : Addr} {o : HO} : un F a = some o ↔ F a = some (.obj o) := by
  unfold un
  constructor
  · intro h
    split at h
    · rename_i q e
      rw [e, Option.some.inj h]
    · cases h
  · intro h
    rw [h]
/-- the table of code objects at P: what it holds bears the name q, and is frozen -/
def TabF (F : Fh) (H : Hp) (P : Addr) (q : Str) : Prop := ∃ ps : Array Value, H P = some (.tbl ps) ∧ TriplesOk ps.toList ∧ ∀ (pos : Pos) (cv : Value), codeAmong pos ps.toList = some cv → ∃ c, cv = .ref c ∧ F c = some (.obj (LamX.CodeO c q))
def TabA (H : Hp) (P : Addr) : Prop := ∃ ps : Array Value, H P = some (.tbl ps) ∧ TriplesOk ps.toList
structure Fz (F : Fh) (H : Hp) : Prop where
  obj : ∀ a o, F a = some (.obj o) → H a = some o
  dice : ∀ a, F a = some .dice → ∃ x y z : Int, H a = some (.lst [.int x, .int y, .int z])
  tab : ∀ a q, F a = some (.tab q) → TabF F H a q
  tabg : ∀ a, F a = some .tabg → TabA H a
theorem Fz.none {F : Fh} {H : Hp} (z : Fz F H) {p : Addr} (h : H p = none) : F p = none := by
  cases e : F p with
  | none => rfl
  | some o =>
    cases o with
    | obj o => rw [z.obj p o e] at h; cases h
    | dice => obtain ⟨x, y, k, q⟩ := z.dice p e; rw [q] at h; cases h
    | tab q => obtain ⟨ps, q, _⟩ := z.tab p q e; rw [q] at h; cases h
    | tabg => obtain ⟨ps, q, _⟩ := z.tabg p e; rw [q] at h; cases h
abbrev Sub (F F' : Fh) : Prop := ∀ a o, F a = some o → F' a = some o
/-- Fz where the heap stands at what F tells but dice and tables -/
theorem Fz.of {F F' : Fh} {H H' : Hp} (z : Fz F H) (t : Sub F F') (h : ∀ a, F a ≠ Option.none → H' a = H a) (n : ∀ a o, F' a = some o → F a = Option.none → ∃ u, o = .obj u ∧ H' a = some u) : Fz F' H' := by
  have cs : ∀ a o, F' a = some o → F a = some o ∨ (∃ u, o = .obj u ∧ H' a = some u) := fun a o e => by
    cases q : F a with
    | none => exact .inr (n a o e q)
    | some u => rw [t a u q] at e; exact .inl e
  have hs : ∀ {a o}, F a = some o → H' a = H a := fun {a o} e => h a (by rw [e]; exact fun z => nomatch z)
  refine ⟨fun a o e => ?_, fun a e => ?_, fun a q e => ?_, fun a e => ?_⟩
  · rcases cs a _ e with e' | ⟨u, e', hu⟩
    · rw [hs e']; exact z.obj a o e'
    · cases e'; exact hu
  · rcases cs a _ e with e' | ⟨u, e', hu⟩
    · rw [hs e']; exact z.dice a e'
    · cases e'
  · rcases cs a _ e with e' | ⟨u, e', hu⟩
    · obtain ⟨ps, h1, h2, h3⟩ := z.tab a q e'
      exact ⟨ps, by rw [hs e']; exact h1, h2, fun pos cv hc => by
        obtain ⟨c, e1, e2⟩ := h3 pos cv hc
        exact ⟨c, e1, t _ _ e2⟩⟩
    · cases e'
  · rcases cs a _ e with e' | ⟨u, e', hu⟩
    · obtain ⟨ps, h1, h2⟩ := z.tabg a e'
      exact ⟨ps, by rw [hs e']; exact h1, h2⟩
    · cases e'
structure Grow (F : Fh) (H : Hp) (F' : Fh) (H' : Hp) : Prop where
  f : ∀ a o, F a = some o → F' a = some o
  k : ∀ a o, F a = none → H a = some o → H' a = some o ∧ F' a = none
  z : Fz F' H'
theorem Grow.refl {F : Fh} {H : Hp} (z : Fz F H) : Grow F H F H := ⟨fun _ _ h => h, fun _ _ h q => ⟨q, h⟩, z⟩
theorem Grow.trans {F F1 F2 : Fh} {H H1 H2 : Hp} (a : Grow F H F1 H1) (b : Grow F1 H1 F2 H2) : Grow F H F2 H2 :=
  ⟨fun c o h => b.f c o (a.f c o h), fun c o h q => by
    obtain ⟨x, y⟩ := a.k c o h q
    exact b.k c o y x, b.z⟩
theorem Grow.un {F F' : Fh} {H H' : Hp} (g : Grow F H F' H') : ∀ a o, un F a = some o → un F' a = some o := fun a o h => un_iff.mpr (g.f a _ (un_iff.mp h))
theorem Fz.un {F : Fh} {H : Hp} (z : Fz F H) : ∀ a o, un F a = some o → H a = some o := fun a o h => z.obj a o (un_iff.mp h)
theorem Grow.new {F : Fh} {H : Hp} (z : Fz F H) {p : Addr} {o : HO} (hp : H p = none) : Grow F H (updF F p (.obj o)) (upd H p o) := by
  have n := z.none hp
  have ne : ∀ {a q}, F a = some q → a ≠ p := fun {a q} h e => by rw [e, n] at h; cases h
  have t : Sub F (updF F p (.obj o)) := fun a q h => by rw [updF_ne (ne h)]; exact h
  refine ⟨t, fun a q h e => ?_, z.of t (fun a h => ?_) fun a q e h => ?_⟩
  · have ne : a ≠ p := fun e' => by rw [e', hp] at e; cases e
    rw [upd_ne ne, updF_ne ne]; exact ⟨e, h⟩
  · exact upd_ne fun e => h (by rw [e]; exact n)
  · by_cases c : a = p
    · rw [c, updF_same] at e; cases e
      exact ⟨o, rfl, by rw [c]; exact upd_same⟩
    · rw [updF_ne c, h] at e; cases e
/-- a new object that is not frozen -/
theorem Grow.lay {F : Fh} {H : Hp} (z : Fz F H) {p : Addr} {o : HO} (hp : H p = none) : Grow F H F (upd H p o) := by
  have n := z.none hp
  exact ⟨fun _ _ q => q, fun a u h e => ⟨by rw [upd_ne (ne_of_none e hp)]; exact e, h⟩, z.of (fun _ _ q => q) (fun a h => upd_ne fun e => h (by rw [e]; exact n)) fun a q e h => by rw [h] at e; cases e⟩
/-- a list of one's own: written -/
theorem Grow.own {F0 F : Fh} {H0 H : Hp} (g : Grow F0 H0 F H) {p : Addr} {xs ys : List V} (hF : F p = none) (h0 : H0 p = none) (hp : H p = some (.lst xs)) : Grow F0 H0 F (upd H p (.lst ys)) := by
  refine ⟨g.f, fun a o h e => ?_, g.z.of (fun _ _ q => q) (fun a h => upd_ne fun e => h (by rw [e]; exact hF)) fun a q e h => by rw [h] at e; cases e⟩
  obtain ⟨x, y⟩ := g.k a o h e
  have ne : a ≠ p := fun z => by rw [z, h0] at e; cases e
  rw [upd_ne ne]; exact ⟨x, y⟩
/-- a list of one's own is frozen -/
theorem Grow.freeze {F0 F : Fh} {H0 H : Hp} (g : Grow F0 H0 F H) {p : Addr} {xs : List V} (hF : F p = none) (h0 : H0 p = none) (hp : H p = some (.lst xs)) : Grow F0 H0 (updF F p (.obj (.lst xs))) H := by
  have ne : ∀ {a q}, F a = some q → a ≠ p := fun {a q} h e => by rw [e, hF] at h; cases h
  have t : Sub F (updF F p (.obj (.lst xs))) := fun a q h => by rw [updF_ne (ne h)]; exact h
  refine ⟨fun a o h => t _ _ (g.f a o h), fun a o h e => ?_, g.z.of t (fun _ _ => rfl) fun a q e h => ?_⟩
  · obtain ⟨x, y⟩ := g.k a o h e
    have ne : a ≠ p := fun z => by rw [z, h0] at e; cases e
    rw [updF_ne ne]; exact ⟨x, y⟩
  · by_cases c : a = p
    · rw [c, updF_same] at e; cases e
      exact ⟨_, rfl, by rw [c]; exact hp⟩
    · rw [updF_ne c, h] at e; cases e
/-! ### 3. data -/
section
variable {K : PySem.W.Frag} {H H' : Hp}
theorem sql_mono (e : ∀ a o, H a = some o → H' a = some o) {a : Addr} {xs : List V} (h : SqL K H a xs) : SqL K H' a xs := by
  rcases h with (h | ⟨o, h⟩) | h
  · exact .inl (.inl (e _ _ h))
  · exact .inl (.inr ⟨o, e _ _ h⟩)
  · exact .inr h
theorem sqt_mono (e : ∀ a o, H a = some o → H' a = some o) {a : Addr} {xs : List V} (h : SqT K H a xs) : SqT K H' a xs := by
  rcases h with (h | ⟨o, h⟩) | h
  · exact .inl (.inl (e _ _ h))
  · exact .inl (.inr ⟨o, e _ _ h⟩)
  · exact .inr h
mutual
theorem dp_mono (e : ∀ a o, H a = some o → H' a = some o) : ∀ {v : V} {d : PyData}, Dp K H v d → Dp K H' v d
  | _, _, .non => .non
  | _, _, .bl b => .bl b
  | _, _, .int i => .int i
  | _, _, .str x => .str x
  | _, _, .lst h r => .lst (sql_mono e h) (dpa_mono e r)
  | _, _, .tup h r => .tup (sqt_mono e h) (dpa_mono e r)
theorem dpa_mono (e : ∀ a o, H a = some o → H' a = some o) : ∀ {vs : List V} {ds : List PyData}, DpAll K H vs ds → DpAll K H' vs ds
  | _, _, .nil => .nil
  | _, _, .cons h r => .cons (dp_mono e h) (dpa_mono e r)
end
theorem dpa_len : ∀ {vs : List V} {ds : List PyData}, DpAll K H vs ds → vs.length = ds.length
  | _, _, .nil => rfl
  | _, _, .cons _ r => congrArg (· + 1) (dpa_len r)
theorem dpa_get : ∀ {vs : List V} {ds : List PyData} {i : Nat} {d : PyData}, DpAll K H vs ds → ds[i]? = some d → ∃ v, vs[i]? = some v ∧ Dp K H v d
  | _, _, _, _, .nil, h => by cases h
  | _, _, 0, _, .cons a _, h => by cases h; exact ⟨_, rfl, a⟩
  | _, _, i + 1, _, .cons _ r, h => dpa_get (i := i) r h
theorem dpa_get' : ∀ {vs : List V} {ds : List PyData} {i : Nat} {v : V}, DpAll K H vs ds → vs[i]? = some v → ∃ d, ds[i]? = some d ∧ Dp K H v d
  | _, _, _, _, .nil, h => by cases h
  | _, _, 0, _, .cons a _, h => by cases h; exact ⟨_, rfl, a⟩
  | _, _, i + 1, _, .cons _ r, h => dpa_get' (i := i) r h
theorem dpa_app : ∀ {vs us : List V} {ds es : List PyData}, DpAll K H vs ds → DpAll K H us es → DpAll K H (vs ++ us) (ds ++ es)
  | _, _, _, _, .nil, h => h
  | _, _, _, _, .cons a r, h => .cons a (dpa_app r h)
theorem dpa_take : ∀ {vs : List V} {ds : List PyData} (n : Nat), DpAll K H vs ds → DpAll K H (vs.take n) (ds.take n)
  | _, _, 0, _ => .nil
  | _, _, _ + 1, .nil => .nil
  | _, _, n + 1, .cons a r => .cons a (dpa_take n r)
theorem dpa_drop : ∀ {vs : List V} {ds : List PyData} (n : Nat), DpAll K H vs ds → DpAll K H (vs.drop n) (ds.drop n)
  | _, _, 0, h => h
  | _, _, _ + 1, .nil => .nil
  | _, _, n + 1, .cons _ r => dpa_drop n r
theorem dp_int {v : V} {i : Int} (h : Dp K H v (.int i)) : v = .int i := by cases h; rfl
theorem dp_bl {v : V} {i : Bool} (h : Dp K H v (.bool i)) : v = .bl i := by cases h; rfl
theorem dp_str {v : V} {i : Str} (h : Dp K H v (.str i)) : v = .str i := by cases h; rfl
theorem dp_non {v : V} (h : Dp K H v .none) : v = .non := by cases h; rfl
theorem dp_lst {v : V} {ds : List PyData} (h : Dp K H v (.list ds)) : ∃ a xs, v = .ref a ∧ SqL K H a xs ∧ DpAll K H xs ds := by cases h; exact ⟨_, _, rfl, by assumption, by assumption⟩
theorem dp_tup {v : V} {ds : List PyData} (h : Dp K H v (.tuple ds)) : ∃ a xs, v = .ref a ∧ SqT K H a xs ∧ DpAll K H xs ds := by cases h; exact ⟨_, _, rfl, by assumption, by assumption⟩
end
/-- how data look -/
abbrev iD : Int → PyData := PyData.int
abbrev bD : Bool → PyData := PyData.bool
abbrev sD : Str → PyData := PyData.str
def nD : Unit → PyData := fun _ => PyData.none
def t2 {α β : Type} (f : α → PyData) (g : β → PyData) : α × β → PyData := fun p => .tuple [f p.1, g p.2]
def t3 {α β γ : Type} (f : α → PyData) (g : β → PyData) (h : γ → PyData) : α × β × γ → PyData := fun p => .tuple [f p.1, g p.2.1, h p.2.2]
def lD {α : Type} (f : α → PyData) : List α → PyData := fun xs => .list (xs.map f)
def tD {α : Type} (f : α → PyData) : List α → PyData := fun xs => .tuple (xs.map f)
def uD {α β : Type} (f : α → PyData) (g : β → PyData) : α ⊕ β → PyData := fun z => match z with
  | .inl x => f x
  | .inr y => g y
def oD {α : Type} (f : α → PyData) : Option α → PyData := fun z => match z with
  | some x => f x
  | none => .none
/-! ### 4. slots -/
inductive Sl where
  | un
  | d (x : PyData)
  | ow (xs : List PyData)
  | dice
  | raw (φ : Fh → V → Prop)
def SlOk (K : PySem.W.Frag) (F : Fh) (H H0 : Hp) : Sl → Option V → Prop
  | .un, _ => True
  | .d x, v => ∃ u, v = some u ∧ Dp K (un F) u x
  | .ow xs, v => ∃ a vs, v = some (.ref a) ∧ F a = none ∧ H0 a = none ∧ H a = some (.lst vs) ∧ DpAll K (un F) vs xs
  | .dice, v => ∃ a, v = some (.ref a) ∧ F a = some .dice
  | .raw φ, v => ∃ u, v = some u ∧ ∀ F', (∀ a o, F a = some o → F' a = some o) → φ F' u
theorem SlOk.grow {K : PySem.W.Frag} {F F' : Fh} {H H' H0 : Hp} (g : Grow F H F' H') {s : Sl} {v : Option V} (h : SlOk K F H H0 s v) : SlOk K F' H' H0 s v := by
  cases s with
  | un => trivial
  | d x => obtain ⟨u, e, q⟩ := h; exact ⟨u, e, dp_mono g.un q⟩
  | ow xs =>
    obtain ⟨a, vs, e, h1, h2, h3, h4⟩ := h
    obtain ⟨k1, k2⟩ := g.k a _ h1 h3
    exact ⟨a, vs, e, k2, h2, k1, dpa_mono g.un h4⟩
  | dice => obtain ⟨a, e, q⟩ := h; exact ⟨a, e, g.f _ _ q⟩
  | raw φ => obtain ⟨u, e, q⟩ := h; exact ⟨u, e, fun F2 t => q F2 fun a o z => t a o (g.f a o z)⟩
/-- the written part, and the tables of code objects (where, the name of what they hold) -/
structure Ktx where
  K : PySem.W.Frag
  T : List (Addr × FO)
structure Sls (K : Ktx) (H0 : Hp) (ρ : List Sl) (σ : L2.St) (F : Fh) (H : Hp) : Prop where
  len : ρ.length = σ.length
  ok : ∀ (i : Nat) (s : Sl) (v : Option V), ρ[i]? = some s → σ[i]? = some v → SlOk K.K F H H0 s v
  tb : ∀ p ∈ K.T, F p.1 = some p.2
  ne : ∀ (i j : Nat) (xs ys : List PyData) (a : Addr), ρ[i]? = some (.ow xs) → σ[i]? = some (some (.ref a)) → ρ[j]? = some (.ow ys) → σ[j]? = some (some (.ref a)) → i = j
theorem Sls.grow {K : Ktx} {H0 : Hp} {ρ : List Sl} {σ : L2.St} {F F' : Fh} {H H' : Hp} (s : Sls K H0 ρ σ F H) (g : Grow F H F' H') : Sls K H0 ρ σ F' H' :=
  ⟨s.len, fun i t v h1 h2 => (s.ok i t v h1 h2).grow g, fun p hp => g.f _ _ (s.tb p hp), s.ne⟩
theorem Sls.at {K : Ktx} {H0 : Hp} {ρ : List Sl} {σ : L2.St} {F : Fh} {H : Hp} (s : Sls K H0 ρ σ F H) {i : Nat} {t : Sl} (h : ρ[i]? = some t) : ∃ v, σ[i]? = some v ∧ SlOk K.K F H H0 t v := by
  have hi : i < ρ.length := (List.getElem?_eq_some_iff.mp h).1
  have hj : i < σ.length := by rw [← s.len]; exact hi
  exact ⟨σ[i], List.getElem?_eq_getElem hj, s.ok i t _ h (List.getElem?_eq_getElem hj)⟩
/-- a slot is stored: no own list -/
theorem Sls.set {K : Ktx} {H0 : Hp} {ρ : List Sl} {σ : L2.St} {F : Fh} {H : Hp} (s : Sls K H0 ρ σ F H) (i : Nat) {t : Sl} {v : Option V} (no : ∀ xs, t ≠ .ow xs) (h : SlOk K.K F H H0 t v) : Sls K H0 (ρ.set i t) (σ.set i v) F H := by
  refine ⟨by rw [List.length_set, List.length_set, s.len], fun j u w h1 h2 => ?_, s.tb, fun j k xs ys a h1 h2 h3 h4 => ?_⟩
  · by_cases e : i = j
    · subst e
      have hi : i < ρ.length := by
        have q := (List.getElem?_eq_some_iff.mp h1).1
        rwa [List.length_set] at q
      rw [List.getElem?_set_self hi] at h1
      rw [List.getElem?_set_self (by rw [← s.len]; exact hi)] at h2
      cases h1; cases h2
      exact h
    · rw [List.getElem?_set_ne e] at h1 h2
      exact s.ok j u w h1 h2
  · have key : ∀ j zs, (ρ.set i t)[j]? = some (.ow zs) → i ≠ j := fun j zs q e => by
      subst e
      have hi : i < ρ.length := by
        have q := (List.getElem?_eq_some_iff.mp q).1
        rwa [List.length_set] at q
      rw [List.getElem?_set_self hi] at q
      exact no _ (Option.some.inj q)
    have e1 := key j xs h1
    have e2 := key k ys h3
    rw [List.getElem?_set_ne e1] at h1 h2
    rw [List.getElem?_set_ne e2] at h3 h4
    exact s.ne j k xs ys a h1 h2 h3 h4
/-- forgetting -/
def wk : List Sl → List Sl → Bool
  | [], [] => true
  | _ :: a, .un :: b => wk a b
  | _, _ => false
inductive Wk : List Sl → List Sl → Prop
  | nil : Wk [] []
  | same {t : Sl} {a b : List Sl} : Wk a b → Wk (t :: a) (t :: b)
  | drop {t : Sl} {a b : List Sl} : Wk a b → Wk (t :: a) (.un :: b)
theorem Wk.rfl' : ∀ {a : List Sl}, Wk a a
  | [] => .nil
  | _ :: _ => .same Wk.rfl'
theorem Wk.len : ∀ {a b : List Sl}, Wk a b → a.length = b.length
  | _, _, .nil => rfl
  | _, _, .same h => congrArg (· + 1) h.len
  | _, _, .drop h => congrArg (· + 1) h.len
theorem Wk.get : ∀ {a b : List Sl}, Wk a b → ∀ (i : Nat) (t : Sl), b[i]? = some t → t = .un ∨ a[i]? = some t
  | _, _, .nil, i, t, h => by cases h
  | _, _, .same w, 0, t, h => .inr h
  | _, _, .drop w, 0, t, h => by cases h; exact .inl rfl
  | _, _, .same w, i + 1, t, h => w.get i t h
  | _, _, .drop w, i + 1, t, h => w.get i t h
theorem Sls.weak {K : Ktx} {H0 : Hp} {ρ ρ' : List Sl} {σ : L2.St} {F : Fh} {H : Hp} (s : Sls K H0 ρ σ F H) (w : Wk ρ ρ') : Sls K H0 ρ' σ F H := by
  refine ⟨by rw [← w.len]; exact s.len, fun i t v h1 h2 => ?_, s.tb, fun i j xs ys a h1 h2 h3 h4 => ?_⟩
  · rcases w.get i t h1 with e | e
    · subst e; trivial
    · exact s.ok i t v e h2
  · rcases w.get i _ h1 with e | e
    · cases e
    · rcases w.get j _ h3 with e' | e'
      · cases e'
      · exact s.ne i j xs ys a e h2 e' h4
/-! ### 5. the judgements -/
def wpE (X : Cx) (e : Expr) : TE := fun σ H Q => ∀ pins s, Inv X pins σ H s → wpAny (model X.prog X.w) X.A (eval e X.env) (EP X pins σ Q) X.xe s
def wpT (X : Cx) (e : Expr) : TT := fun σ H Q => ∀ pins s, Inv X pins σ H s → wpAny (model X.prog X.w) X.A (isTrue e X.env (eval e X.env)) (TP X pins σ Q) X.xe s
def wpA (X : Cx) (es : List Expr) : TA := fun σ H Q => ∀ (pos : Pos) pins s, Inv X pins σ H s → wpAny (model X.prog X.w) X.A (spliced (backTo pos (starEach es X.env))) (AP X pins σ Q) X.xe s
def wpB (X : Cx) (sts : List Stmt) : TS := fun D σ H => ∀ pins s, Inv X pins σ H s → wpAny (model X.prog X.w) X.A (execs sts X.env) (SP X pins D) X.xe s
def wpG (X : Cx) (tg : Expr) : TG := fun v σ H Q => ∀ pins s u, Inv X pins σ H s → RelV v u → wpAny (model X.prog X.w) X.A (assign tg X.env u) (fun _ s' => ∃ σ' H', Inv X pins σ' H' s' ∧ Q σ' H') X.xe s
def wpI (X : Cx) (tg iter : Expr) : TI := fun σ H R => ∀ pins s, Inv X pins σ H s → wpAny (model X.prog X.w) X.A (eval iter X.env) (fun v s1 => wpAny (model X.prog X.w) X.A (pyIter v) (PIE X pins σ tg R) X.xe s1) X.xe s
section
variable {X : Cx}
theorem pe_wp {e : Expr} : PE X e (wpE X e) := ⟨fun pins s _ _ _ I h => h pins s I⟩
theorem pt_wp {e : Expr} : PT X e (wpT X e) := ⟨fun pins s _ _ _ I h => h pins s I⟩
theorem pa_wp {es : List Expr} : PA X es (wpA X es) := ⟨fun pos pins s _ _ _ I h => h pos pins s I⟩
theorem pb_wp {sts : List Stmt} : PSs X sts (wpB X sts) := ⟨fun pins s _ _ _ I h => h pins s I⟩
theorem pg_wp {tg : Expr} : PG X tg (wpG X tg) := ⟨fun pins s _ _ _ u _ I r h => h pins s u I r⟩
theorem pi_wp {tg iter : Expr} : PI X tg iter (wpI X tg iter) := ⟨fun pins s _ _ _ I h => h pins s I⟩
theorem wpE_of {e : Expr} {t : TE} (p : PE X e t) {σ : L2.St} {H : Hp} {Q : VK} (h : t σ H Q) : wpE X e σ H Q := fun pins s I => p.run pins s σ H Q I h
theorem wpT_of {e : Expr} {t : TT} (p : PT X e t) {σ : L2.St} {H : Hp} {Q : Bool → Hp → Prop} (h : t σ H Q) : wpT X e σ H Q := fun pins s I => p.run pins s σ H Q I h
theorem wpA_of {es : List Expr} {t : TA} (p : PA X es t) {σ : L2.St} {H : Hp} {Q : List V → Hp → Prop} (h : t σ H Q) : wpA X es σ H Q := fun pos pins s I => p.run pos pins s σ H Q I h
theorem wpB_of {sts : List Stmt} {t : TS} (p : PSs X sts t) {D : Ends} {σ : L2.St} {H : Hp} (h : t D σ H) : wpB X sts D σ H := fun pins s I => p.run pins s σ H D I h
theorem wpG_of {tg : Expr} {t : TG} (p : PG X tg t) {v : V} {σ : L2.St} {H : Hp} {Q : L2.St → Hp → Prop} (h : t v σ H Q) : wpG X tg v σ H Q := fun pins s u I r => p.run pins s σ H v u Q I r h
theorem wpI_of {tg iter : Expr} {t : TI} (p : PI X tg iter t) {σ : L2.St} {H : Hp} {R : It → Hp → Prop} (h : t σ H R) : wpI X tg iter σ H R := fun pins s I => p.run pins s σ H R I h
end
structure Ct where
  X : Cx
  T : List (Addr × FO)
  k : Nat
  ca : Str → Addr
  Ee : XK
  calm : X.calm = true
  room : Room k X.A
  pass : Passes (L2.CX X.prog X.w) X Ee
  tk : Takes X (fun cls d _ H => Ee cls d H)
  nd : X.N.Nodup
  po : PassesOwn (model X.prog X.w) X.A X.env X.xe
abbrev Ct.kt (C : Ct) : Ktx := ⟨C.X.K, C.T⟩
/-- e comes to (f x), x by the wish m -/
def EM {α : Type} (C : Ct) (ρ : List Sl) (e : Expr) (f : α → PyData) (m : W α) : Prop :=
  ∀ (H0 : Hp) (σ : L2.St) (F : Fh) (H : Hp) (Q : VK) (Qp : α → Prop) (Ep : Str → Prop), Fz F H → Sls C.kt H0 ρ σ F H → m Qp Ep →
    (∀ x, Qp x → ∀ v F' H', Grow F H F' H' → Dp C.X.K (un F') v (f x) → Q v H') →
    (∀ c, Ep c → ∀ F' H', Grow F H F' H' → C.Ee (.ref (C.ca c)) none H') → wpE C.X e σ H Q
def TM (C : Ct) (ρ : List Sl) (e : Expr) (m : W Bool) : Prop :=
  ∀ (H0 : Hp) (σ : L2.St) (F : Fh) (H : Hp) (Q : Bool → Hp → Prop) (Qp : Bool → Prop) (Ep : Str → Prop), Fz F H → Sls C.kt H0 ρ σ F H → m Qp Ep →
    (∀ b, Qp b → ∀ F' H', Grow F H F' H' → Q b H') →
    (∀ c, Ep c → ∀ F' H', Grow F H F' H' → C.Ee (.ref (C.ca c)) none H') → wpT C.X e σ H Q
def ArOk (K : PySem.W.Frag) (F : Fh) : Sl → V → Prop
  | .d x, v => Dp K (un F) v x
  | .dice, v => ∃ a, v = .ref a ∧ F a = some .dice
  | _, _ => False
theorem ArOk.grow {K : PySem.W.Frag} {F F' : Fh} {H H' : Hp} (g : Grow F H F' H') {s : Sl} {v : V} (h : ArOk K F s v) : ArOk K F' s v := by
  cases s with
  | d x => exact dp_mono g.un h
  | dice => obtain ⟨a, e, q⟩ := h; exact ⟨a, e, g.f _ _ q⟩
  | un => exact h
  | ow => exact h
  | raw => exact h
abbrev ArsOk (K : PySem.W.Frag) (F : Fh) : List Sl → List V → Prop := Paired (ArOk K F)
def EA {α : Type} (C : Ct) (ρ : List Sl) (es : List Expr) (f : α → List Sl) (m : W α) : Prop :=
  ∀ (H0 : Hp) (σ : L2.St) (F : Fh) (H : Hp) (Q : List V → Hp → Prop) (Qp : α → Prop) (Ep : Str → Prop), Fz F H → Sls C.kt H0 ρ σ F H → m Qp Ep →
    (∀ x, Qp x → ∀ vs F' H', Grow F H F' H' → ArsOk C.X.K F' (f x) vs → Q vs H') →
    (∀ c, Ep c → ∀ F' H', Grow F H F' H' → C.Ee (.ref (C.ca c)) none H') → wpA C.X es σ H Q
/-- a statement's wish: behind it, a return, an error -/
def M (S R : Type) : Type := (S → Prop) → (R → Prop) → (Str → Prop) → Prop
def SM {S R : Type} (C : Ct) (ρ : List Sl) (sts : List Stmt) (g : S → List Sl) (f : R → PyData) (m : M S R) : Prop :=
  ∀ (F0 : Fh) (H0 : Hp) (σ : L2.St) (F : Fh) (H : Hp) (D : Ends) (N : S → Prop) (R' : R → Prop) (Ep : Str → Prop), Grow F0 H0 F H → Sls C.kt H0 ρ σ F H → m N R' Ep →
    (∀ s, N s → ∀ σ' F' H', Grow F0 H0 F' H' → Sub F F' → Sls C.kt H0 (g s) σ' F' H' → D.nx σ' H') →
    (∀ r, R' r → ∀ v F' H', Grow F0 H0 F' H' → Dp C.X.K (un F') v (f r) → D.rt v H') →
    (∀ c, Ep c → ∀ F' H', Grow F0 H0 F' H' → C.Ee (.ref (C.ca c)) none H') → wpB C.X sts D σ H
end Wl
namespace Wl
open PySem PySem.Spec PyProof.Rows L2
/-! ### 6. expressions -/
def W.ite {α : Type} (c : Bool) (a b : W α) : W α := fun Q E => if c = true then a Q E else b Q E
theorem ite_t {c : Bool} {A B : Prop} (hc : c = true) (h : if c = true then A else B) : A := by rwa [if_pos hc] at h
theorem ite_f {c : Bool} {A B : Prop} (hc : c = false) (h : if c = true then A else B) : B := by rwa [if_neg (by rw [hc]; decide)] at h
section
variable {C : Ct} {ρ : List Sl} {a b c e : Expr} {es : List Expr} {α β γ δ : Type} {fa : α → PyData} {fb : β → PyData} {fc : γ → PyData} {ma : W α} {mb : W β} {mc : W Bool} {pos : Pos}
theorem em_to {x : α} {y : β} (m : W α) : True := trivial
theorem em_var (i : Nat) (f : α → PyData) (z : α) {x : Str} (h : ρ[i]? = some (.d (f z)) := by rfl) (hN : C.X.N[i]? = some x := by rfl) (hv : Vis C.X.env.scope x := by first | exact .inl rfl | exact .inr (.inl rfl) | exact .inr (.inr rfl)) (hd : (x == ("__debug__" : Str)) = false := by decide) (hcd : (x == ("__classdict__" : Str)) = false := by decide) :
    EM C ρ (.Name x pos) f (.ret z) := fun H0 σ F H Q Qp Ep fz s m hq he => by
  obtain ⟨v, h1, u, e1, d⟩ := s.at h
  exact wpE_of (pe_var (i := i) hN hv hd hcd) ⟨u, by rw [h1, e1], hq z m u F H (Grow.refl fz) d⟩
theorem em_int {i : Int} {j : Nat} : EM C ρ (.Constant (.int i) j pos) iD (.ret i) := fun H0 σ F H Q Qp Ep fz s m hq he => wpE_of pe_int (hq i m _ F H (Grow.refl fz) (.int i))
theorem em_bl {i : Bool} {j : Nat} : EM C ρ (.Constant (.bool i) j pos) bD (.ret i) := fun H0 σ F H Q Qp Ep fz s m hq he => wpE_of pe_bl (hq i m _ F H (Grow.refl fz) (.bl i))
theorem em_str {i : Str} {j : Nat} : EM C ρ (.Constant (.str i) j pos) sD (.ret i) := fun H0 σ F H Q Qp Ep fz s m hq he => wpE_of pe_str (hq i m _ F H (Grow.refl fz) (.str i))
theorem em_non {j : Nat} : EM C ρ (.Constant .none j pos) nD (.ret ()) := fun H0 σ F H Q Qp Ep fz s m hq he => wpE_of pe_non (hq () m _ F H (Grow.refl fz) .non)
/-- another look at the value -/
theorem em_as (h : EM C ρ a fa ma) (g : α → γ) (hg : ∀ x, fa x = fc (g x)) : EM C ρ a fc (ma.bd fun x => .ret (g x)) := fun H0 σ F H Q Qp Ep fz s m hq he =>
  h H0 σ F H Q _ Ep fz s m (fun x qx v F' H' G d => hq (g x) qx v F' H' G (by rw [← hg]; exact d)) he
theorem em_eqv {m' : W α} (h : EM C ρ a fa ma) (e : ma = m') : EM C ρ a fa m' := e ▸ h
/-- a two-place operation by data -/
def Opn (K : PySem.W.Frag) (r : R2) (fa : α → PyData) (fb : β → PyData) (fc : γ → PyData) (g : α → β → W γ) : Prop :=
  ∀ (x : α) (y : β) (vx vy : V) (F : Fh) (H : Hp) (Q : VK) (Qp : γ → Prop) (Ep : Str → Prop), Fz F H → Dp K (un F) vx (fa x) → Dp K (un F) vy (fb y) → g x y Qp Ep →
    (∀ z, Qp z → ∀ v F' H', Grow F H F' H' → Dp K (un F') v (fc z) → Q v H') → r vx vy H Q
/-- .. that gives a value of no object -/
theorem Opn.of {K : PySem.W.Frag} {r : R2} {g : α → β → W γ} (h : ∀ (x : α) (y : β) (vx vy : V) (F : Fh) (H : Hp) (Q : VK) (Qp : γ → Prop) (Ep : Str → Prop), (∀ p o, un F p = some o → H p = some o) → Dp K (un F) vx (fa x) → Dp K (un F) vy (fb y) → g x y Qp Ep →
    (∀ z, Qp z → ∀ v, (∀ U, Dp K U v (fc z)) → Q v H) → r vx vy H Q) : Opn K r fa fb fc g := fun x y vx vy F H Q Qp Ep fz dx dy m hq =>
  h x y vx vy F H Q Qp Ep fz.un dx dy m fun z qz v d => hq z qz v F H (Grow.refl fz) (d _)
theorem bd2 {op : Sem Value → Sem Value → Prop} : True := trivial
theorem bin_run {r : R2} {g : α → β → W γ} (ho : Opn C.X.K r fa fb fc g) (ha : EM C ρ a fa ma) (hb : EM C ρ b fb mb) {H0 : Hp} {σ : L2.St} {F : Fh} {H : Hp} {Q : VK} {Qp : γ → Prop} {Ep : Str → Prop}
    (fz : Fz F H) (s : Sls C.kt H0 ρ σ F H) (m : (ma.bd fun x => mb.bd fun y => g x y) Qp Ep) (hq : ∀ x, Qp x → ∀ v F' H', Grow F H F' H' → Dp C.X.K (un F') v (fc x) → Q v H')
    (he : ∀ c, Ep c → ∀ F' H', Grow F H F' H' → C.Ee (.ref (C.ca c)) none H') : tOp r (wpE C.X a) (wpE C.X b) σ H Q :=
  ha H0 σ F H _ _ Ep fz s m (fun x qx v F1 H1 G1 d1 => hb H0 σ F1 H1 _ _ Ep G1.z (s.grow G1) qx (fun y qy u F2 H2 G2 d2 =>
    ho x y v u F2 H2 Q Qp Ep G2.z (dp_mono G2.un d1) d2 qy fun z qz w F3 H3 G3 d3 => hq z qz w F3 H3 ((G1.trans G2).trans G3) d3) fun c ec F2 H2 G2 => he c ec F2 H2 (G1.trans G2)) he
theorem em_bin {op : Operator} {r : R2} {g : α → β → W γ} (hr : OpR C.X (binaryOp op) r) (ho : Opn C.X.K r fa fb fc g) (ha : EM C ρ a fa ma) (hb : EM C ρ b fb mb) : EM C ρ (.BinOp a op b pos) fc (ma.bd fun x => mb.bd fun y => g x y) :=
  fun H0 σ F H Q Qp Ep fz s m hq he => wpE_of (pe_op hr pe_wp pe_wp) (bin_run ho ha hb fz s m hq he)
theorem em_cmp {op : CmpOp} {r : R2} {g : α → β → W γ} (hr : OpR C.X (compareOp op) r) (ho : Opn C.X.K r fa fb fc g) (ha : EM C ρ a fa ma) (hb : EM C ρ b fb mb) (hm : behindInMarks op b = false := by with_unfolding_all rfl) : EM C ρ (.Compare a [op] [b] pos) fc (ma.bd fun x => mb.bd fun y => g x y) :=
  fun H0 σ F H Q Qp Ep fz s m hq he => wpE_of (pe_cmpR hr pe_wp pe_wp hm) (bin_run ho ha hb fz s m hq he)
theorem tm_cmp {op : CmpOp} {r : R2} {g : α → β → W Bool} (hr : OpR C.X (compareOp op) r) (ho : Opn C.X.K r fa fb bD g) (ha : EM C ρ a fa ma) (hb : EM C ρ b fb mb) (hm : behindInMarks op b = false := by with_unfolding_all rfl) : TM C ρ (.Compare a [op] [b] pos) (ma.bd fun x => mb.bd fun y => g x y) :=
  fun H0 σ F H Q Qp Ep fz s m hq he => wpT_of (pt_cmpR hr pe_wp pe_wp hm) (bin_run ho ha hb fz s m (fun x qx v F' H' G d => ⟨x, dp_bl d, hq x qx F' H' G⟩) he)
/-- a op1 b op2 c -/
theorem ch_run {r r' : R2} {g : α → β → W Bool} {g' : β → γ → W Bool} {mc' : W γ} (ho : Opn C.X.K r fa fb bD g) (ho' : Opn C.X.K r' fb fc bD g') (ha : EM C ρ a fa ma) (hb : EM C ρ b fb mb) (hc : EM C ρ c fc mc') {H0 : Hp} {σ : L2.St} {F : Fh} {H : Hp} {Q : VK} {Qp : Bool → Prop} {Ep : Str → Prop}
    (fz : Fz F H) (s : Sls C.kt H0 ρ σ F H) (m : (ma.bd fun x => mb.bd fun y => (g x y).bd fun k => W.ite k (mc'.bd fun z => g' y z) (.ret false)) Qp Ep) (hq : ∀ x, Qp x → ∀ v F' H', Grow F H F' H' → Dp C.X.K (un F') v (bD x) → Q v H')
    (he : ∀ c, Ep c → ∀ F' H', Grow F H F' H' → C.Ee (.ref (C.ca c)) none H') : tChain r r' (wpE C.X a) (wpE C.X b) (wpE C.X c) σ H Q :=
  ha H0 σ F H _ _ Ep fz s m (fun x qx v F1 H1 G1 d1 => hb H0 σ F1 H1 _ _ Ep G1.z (s.grow G1) qx (fun y qy u F2 H2 G2 d2 =>
    ho x y v u F2 H2 _ _ Ep G2.z (dp_mono G2.un d1) d2 qy fun k qk w F3 H3 G3 d3 => ⟨k, dp_bl d3, by
      cases k with
      | true =>
        rw [if_pos rfl]
        have q := ite_t rfl qk
        exact hc H0 σ F3 H3 _ _ Ep G3.z (((s.grow G1).grow G2).grow G3) q (fun z qz v4 F4 H4 G4 d4 => ho' y z u v4 F4 H4 Q Qp Ep G4.z (dp_mono G4.un (dp_mono G3.un d2)) d4 qz fun k qk w F5 H5 G5 d5 => hq k qk w F5 H5 ((((G1.trans G2).trans G3).trans G4).trans G5) d5) fun c ec F4 H4 G4 => he c ec F4 H4 (((G1.trans G2).trans G3).trans G4)
      | false =>
        rw [if_neg Bool.false_ne_true]
        exact hq false (ite_f rfl qk) _ F3 H3 ((G1.trans G2).trans G3) (.bl false)⟩) fun c ec F2 H2 G2 => he c ec F2 H2 (G1.trans G2)) he
theorem em_chain {op op' : CmpOp} {r r' : R2} {g : α → β → W Bool} {g' : β → γ → W Bool} {mc' : W γ} (hr : OpR C.X (compareOp op) r) (hr' : OpR C.X (compareOp op') r') (ho : Opn C.X.K r fa fb bD g) (ho' : Opn C.X.K r' fb fc bD g') (ha : EM C ρ a fa ma) (hb : EM C ρ b fb mb) (hc : EM C ρ c fc mc')
    (hm : lastMarks [op, op'] [b, c] = false := by with_unfolding_all rfl) : EM C ρ (.Compare a [op, op'] [b, c] pos) bD (ma.bd fun x => mb.bd fun y => (g x y).bd fun k => W.ite k (mc'.bd fun z => g' y z) (.ret false)) :=
  fun H0 σ F H Q Qp Ep fz s m hq he => wpE_of (pe_chain hr hr' pe_wp pe_wp pe_wp hm) (ch_run ho ho' ha hb hc fz s m hq he)
theorem tm_chain {op op' : CmpOp} {r r' : R2} {g : α → β → W Bool} {g' : β → γ → W Bool} {mc' : W γ} (hr : OpR C.X (compareOp op) r) (hr' : OpR C.X (compareOp op') r') (ho : Opn C.X.K r fa fb bD g) (ho' : Opn C.X.K r' fb fc bD g') (ha : EM C ρ a fa ma) (hb : EM C ρ b fb mb) (hc : EM C ρ c fc mc')
    (hm : lastMarks [op, op'] [b, c] = false := by with_unfolding_all rfl) : TM C ρ (.Compare a [op, op'] [b, c] pos) (ma.bd fun x => mb.bd fun y => (g x y).bd fun k => W.ite k (mc'.bd fun z => g' y z) (.ret false)) :=
  fun H0 σ F H Q Qp Ep fz s m hq he => wpT_of (pt_chain hr hr' pe_wp pe_wp pe_wp hm) (ch_run ho ho' ha hb hc fz s m (fun x qx v F' H' G d => ⟨x, dp_bl d, hq x qx F' H' G⟩) he)
/-! tests -/
theorem tm_val (h : EM C ρ a bD mc) (he : ∀ whole, isTrue a C.X.env whole = (do let v ← whole; standAt a.pos; holding [v] (truthy v)) := by intro _; rfl) : TM C ρ a mc := fun H0 σ F H Q Qp Ep fz s m hq hE =>
  wpT_of (pt_val pe_wp he) (h H0 σ F H _ Qp Ep fz s m (fun x qx v F' H' G d => ⟨x, dp_bl d, hq x qx F' H' G⟩) hE)
theorem tm_not (h : TM C ρ a mc) : TM C ρ (.UnaryOp .Not a pos) (mc.bd fun k => .ret (!k)) := fun H0 σ F H Q Qp Ep fz s m hq hE =>
  wpT_of (pt_not pt_wp) (h H0 σ F H _ _ Ep fz s m (fun x qx F' H' G => hq (!x) qx F' H' G) hE)
/-- and, or, as tests: a list of them -/
def wpW (X : Cx) (e : Expr) : TT := fun σ H Q => ∀ whole pins s, Inv X pins σ H s → wpAny (model X.prog X.w) X.A (isTrue e X.env whole) (TP X pins σ Q) X.xe s
theorem pw_wp {X : Cx} {e : Expr} : PW X e (wpW X e) := ⟨fun wh pins s _ _ _ I h => h wh pins s I⟩
theorem wpW_of {X : Cx} {e : Expr} {t : TT} (p : PW X e t) {σ : L2.St} {H : Hp} {Q : Bool → Hp → Prop} (h : t σ H Q) : wpW X e σ H Q := fun wh pins s I => p.run wh pins s σ H Q I h
def XM (C : Ct) (ρ : List Sl) (e : Expr) (m : W Bool) : Prop :=
  ∀ (H0 : Hp) (σ : L2.St) (F : Fh) (H : Hp) (Q : Bool → Hp → Prop) (Qp : Bool → Prop) (Ep : Str → Prop), Fz F H → Sls C.kt H0 ρ σ F H → m Qp Ep →
    (∀ b, Qp b → ∀ F' H', Grow F H F' H' → Q b H') →
    (∀ c, Ep c → ∀ F' H', Grow F H F' H' → C.Ee (.ref (C.ca c)) none H') → wpW C.X e σ H Q
theorem tm_bool (h : XM C ρ a mc) : TM C ρ a mc := fun H0 σ F H Q Qp Ep fz s m hq hE => wpT_of (PW.pt pw_wp) (h H0 σ F H Q Qp Ep fz s m hq hE)
theorem xm_and1 (h : TM C ρ a mc) : XM C ρ (.BoolOp .And [a] pos) mc := fun H0 σ F H Q Qp Ep fz s m hq hE => wpW_of (pw_and1 pt_wp) (h H0 σ F H Q Qp Ep fz s m hq hE)
theorem xm_or1 (h : TM C ρ a mc) : XM C ρ (.BoolOp .Or [a] pos) mc := fun H0 σ F H Q Qp Ep fz s m hq hE => wpW_of (pw_or1 pt_wp) (h H0 σ F H Q Qp Ep fz s m hq hE)
theorem xm_and {mr : W Bool} (h : TM C ρ a mc) (hr : XM C ρ (.BoolOp .And (b :: es) pos) mr) : XM C ρ (.BoolOp .And (a :: b :: es) pos) (mc.bd fun k => W.ite k mr (.ret false)) := fun H0 σ F H Q Qp Ep fz s m hq hE =>
  wpW_of (pw_and pt_wp pw_wp) (h H0 σ F H _ _ Ep fz s m (fun k qk F' H' G => by
    cases k with
    | true =>
      rw [if_pos rfl]
      exact hr H0 σ F' H' Q Qp Ep G.z (s.grow G) (ite_t rfl qk) (fun x qx F2 H2 G2 => hq x qx F2 H2 (G.trans G2)) fun c ec F2 H2 G2 => hE c ec F2 H2 (G.trans G2)
    | false =>
      rw [if_neg Bool.false_ne_true]
      exact hq false (ite_f rfl qk) F' H' G) hE)
theorem xm_or {mr : W Bool} (h : TM C ρ a mc) (hr : XM C ρ (.BoolOp .Or (b :: es) pos) mr) : XM C ρ (.BoolOp .Or (a :: b :: es) pos) (mc.bd fun k => W.ite k (.ret true) mr) := fun H0 σ F H Q Qp Ep fz s m hq hE =>
  wpW_of (pw_or pt_wp pw_wp) (h H0 σ F H _ _ Ep fz s m (fun k qk F' H' G => by
    cases k with
    | true =>
      rw [if_pos rfl]
      exact hq true (ite_t rfl qk) F' H' G
    | false =>
      rw [if_neg Bool.false_ne_true]
      exact hr H0 σ F' H' Q Qp Ep G.z (s.grow G) (ite_f rfl qk) (fun x qx F2 H2 G2 => hq x qx F2 H2 (G.trans G2)) fun c ec F2 H2 G2 => hE c ec F2 H2 (G.trans G2)) hE)
/-! and, or, not as values (bools) -/
theorem em_one {op : BoolOp} (h : EM C ρ a bD mc) : EM C ρ (.BoolOp op [a] pos) bD mc := fun H0 σ F H Q Qp Ep fz s m hq hE => wpE_of (pe_one pe_wp) (h H0 σ F H Q Qp Ep fz s m hq hE)
theorem em_and {mr : W Bool} (h : EM C ρ a bD mc) (hr : EM C ρ (.BoolOp .And (b :: es) pos) bD mr) : EM C ρ (.BoolOp .And (a :: b :: es) pos) bD (mc.bd fun k => W.ite k mr (.ret false)) := fun H0 σ F H Q Qp Ep fz s m hq hE =>
  wpE_of (pe_and pe_wp pe_wp) (h H0 σ F H _ _ Ep fz s m (fun k qk v F' H' G d => ⟨k, dp_bl d, by
    cases k with
    | true =>
      rw [if_pos rfl]
      exact hr H0 σ F' H' Q Qp Ep G.z (s.grow G) (ite_t rfl qk) (fun x qx v F2 H2 G2 d2 => hq x qx v F2 H2 (G.trans G2) d2) fun c ec F2 H2 G2 => hE c ec F2 H2 (G.trans G2)
    | false =>
      rw [if_neg Bool.false_ne_true]
      exact hq false (ite_f rfl qk) _ F' H' G (.bl false)⟩) hE)
theorem em_or {mr : W Bool} (h : EM C ρ a bD mc) (hr : EM C ρ (.BoolOp .Or (b :: es) pos) bD mr) : EM C ρ (.BoolOp .Or (a :: b :: es) pos) bD (mc.bd fun k => W.ite k (.ret true) mr) := fun H0 σ F H Q Qp Ep fz s m hq hE =>
  wpE_of (pe_or pe_wp pe_wp) (h H0 σ F H _ _ Ep fz s m (fun k qk v F' H' G d => ⟨k, dp_bl d, by
    cases k with
    | true =>
      rw [if_pos rfl]
      exact hq true (ite_t rfl qk) _ F' H' G (.bl true)
    | false =>
      rw [if_neg Bool.false_ne_true]
      exact hr H0 σ F' H' Q Qp Ep G.z (s.grow G) (ite_f rfl qk) (fun x qx v F2 H2 G2 d2 => hq x qx v F2 H2 (G.trans G2) d2) fun c ec F2 H2 G2 => hE c ec F2 H2 (G.trans G2)⟩) hE)
theorem em_not (h : EM C ρ a bD mc) : EM C ρ (.UnaryOp .Not a pos) bD (mc.bd fun k => .ret (!k)) := fun H0 σ F H Q Qp Ep fz s m hq hE =>
  wpE_of (pe_not pe_wp) (h H0 σ F H _ _ Ep fz s m (fun x qx v F' H' G d => ⟨x, dp_bl d, hq (!x) qx _ F' H' G (.bl _)⟩) hE)
theorem em_neg {ma : W Int} (h : EM C ρ a iD ma) : EM C ρ (.UnaryOp .USub a pos) iD (ma.bd fun i => .ret (-i)) := fun H0 σ F H Q Qp Ep fz s m hq hE =>
  wpE_of (pe_un un_neg pe_wp) (h H0 σ F H _ _ Ep fz s m (fun x qx v F' H' G d => ⟨x, dp_int d, hq (-x) qx _ F' H' G (.int _)⟩) hE)
theorem em_if {m1 m2 : W α} (hc : TM C ρ c mc) (ha : EM C ρ a fa m1) (hb : EM C ρ b fa m2) : EM C ρ (.IfExp c a b pos) fa (mc.bd fun k => W.ite k m1 m2) := fun H0 σ F H Q Qp Ep fz s m hq hE =>
  wpE_of (pe_ifExp pt_wp pe_wp pe_wp) (hc H0 σ F H _ _ Ep fz s m (fun k qk F' H' G => by
    cases k with
    | true =>
      rw [if_pos rfl]
      exact ha H0 σ F' H' Q Qp Ep G.z (s.grow G) (ite_t rfl qk) (fun x qx v F2 H2 G2 d2 => hq x qx v F2 H2 (G.trans G2) d2) fun c ec F2 H2 G2 => hE c ec F2 H2 (G.trans G2)
    | false =>
      rw [if_neg Bool.false_ne_true]
      exact hb H0 σ F' H' Q Qp Ep G.z (s.grow G) (ite_f rfl qk) (fun x qx v F2 H2 G2 d2 => hq x qx v F2 H2 (G.trans G2) d2) fun c ec F2 H2 G2 => hE c ec F2 H2 (G.trans G2)) hE)
/-! arguments -/
def noStar : Expr → Bool
  | .Starred _ _ => false
  | _ => true
theorem star_of (h : noStar e = true) (env : Env) : starEach (e :: es) env = (false, eval e env) :: starEach es env := by
  cases e <;> first | rfl | (cases h)
theorem back_of (h : es.all noStar = true) (pos : Pos) (env : Env) : (backTo pos (starEach es env)).any (·.1) = false := by
  induction es with
  | nil => rfl
  | cons e es ih =>
    rw [List.all_cons, Bool.and_eq_true] at h
    rw [star_of h.1]
    show (false || (backTo pos (starEach es env)).any (·.1)) = false
    rw [ih h.2]; rfl
structure AM {α : Type} (C : Ct) (ρ : List Sl) (es : List Expr) (f : α → List Sl) (m : W α) : Prop where
  run : EA C ρ es f m
  st : es.all noStar = true
theorem am_nil : AM C ρ [] (fun _ : Unit => []) (.ret ()) := ⟨fun H0 σ F H Q Qp Ep fz s m hq he => wpA_of pa_nil (hq () m [] F H (Grow.refl fz) .nil), rfl⟩
theorem am_cons {f : β → List Sl} (h : EM C ρ e fa ma) (hr : AM C ρ es f mb) (hs : noStar e = true := by rfl) : AM C ρ (e :: es) (fun p : α × β => .d (fa p.1) :: f p.2) (ma.bd fun x => mb.bd fun y => .ret (x, y)) :=
  ⟨fun H0 σ F H Q Qp Ep fz s m hq he => wpA_of (pa_cons pe_wp pa_wp (star_of hs _)) (h H0 σ F H _ _ Ep fz s m (fun x qx v F1 H1 G1 d1 => hr.run H0 σ F1 H1 _ _ Ep G1.z (s.grow G1) qx (fun y qy vs F2 H2 G2 d2 =>
    hq (x, y) qy (v :: vs) F2 H2 (G1.trans G2) (.cons (show ArOk C.X.K F2 (.d (fa x)) v from dp_mono G2.un d1) d2)) fun c ec F2 H2 G2 => he c ec F2 H2 (G1.trans G2)) he), by rw [List.all_cons, hs, hr.st]; rfl⟩
theorem am_dice {f : β → List Sl} (i : Nat) {x : Str} (h : ρ[i]? = some .dice) (hN : C.X.N[i]? = some x := by rfl) (hv : Vis C.X.env.scope x := by first | exact .inl rfl | exact .inr (.inl rfl) | exact .inr (.inr rfl)) (hr : AM C ρ es f mb) (hd : (x == ("__debug__" : Str)) = false := by decide) (hcd : (x == ("__classdict__" : Str)) = false := by decide) :
    AM C ρ (.Name x pos :: es) (fun p : β => .dice :: f p) mb :=
  ⟨fun H0 σ F H Q Qp Ep fz s m hq he => by
    obtain ⟨v, h1, u, e1, hF⟩ := s.at h
    refine wpA_of (pa_cons (pe_var (i := i) hN hv hd hcd) pa_wp (star_of rfl _)) ⟨.ref u, by rw [h1, e1], hr.run H0 σ F H _ Qp Ep fz s m (fun y qy vs F2 H2 G2 d2 => hq y qy (.ref u :: vs) F2 H2 G2 (.cons ⟨u, rfl, G2.f _ _ hF⟩ d2)) he⟩, by rw [List.all_cons, hr.st]; rfl⟩
/-! displays -/
theorem ars_dpa {K : PySem.W.Frag} {F : Fh} : ∀ {ds : List PyData} {vs : List V}, ArsOk K F (ds.map Sl.d) vs → DpAll K (un F) vs ds
  | [], _, h => by cases h; exact .nil
  | d :: ds, _, h => by
    cases h with
    | cons a r => exact .cons a (ars_dpa r)
theorem em_tup {k : Nat} {f : β → List Sl} (h : AM C ρ es f mb) (g : β → γ) (hg : ∀ b, ∃ ds, f b = ds.map Sl.d ∧ fc (g b) = .tuple ds ∧ ds.length ≤ 1000) : EM C ρ (.Tuple es k pos) fc (mb.bd fun b => .ret (g b)) := fun H0 σ F H Q Qp Ep fz s m hq he =>
  wpE_of (pe_tup pa_wp) (h.run H0 σ F H _ _ Ep fz s m (fun b qb vs F1 H1 G1 d1 => by
    obtain ⟨ds, e1, e2, hl⟩ := hg b
    rw [e1] at d1
    have d2 := ars_dpa d1
    refine ⟨Nat.le_of_lt (small1000 (by rw [dpa_len d2]; exact hl)), fun p hp => ?_⟩
    have G2 := Grow.new (o := .tup vs) G1.z hp
    refine hq (g b) qb _ _ _ (G1.trans G2) ?_
    rw [e2]
    exact .tup (.inl (.inl (un_iff.mpr updF_same))) (dpa_mono G2.un d2)) he)
theorem em_lst {f : β → List Sl} (h : AM C ρ es f mb) (g : β → γ) (hg : ∀ b, ∃ ds, f b = ds.map Sl.d ∧ fc (g b) = .list ds ∧ ds.length ≤ 1000) : EM C ρ (.List es pos) fc (mb.bd fun b => .ret (g b)) := fun H0 σ F H Q Qp Ep fz s m hq he =>
  wpE_of (pe_lst pa_wp) (h.run H0 σ F H _ _ Ep fz s m (fun b qb vs F1 H1 G1 d1 => by
    obtain ⟨ds, e1, e2, hl⟩ := hg b
    rw [e1] at d1
    have d2 := ars_dpa d1
    refine ⟨Nat.le_of_lt (small1000 (by rw [dpa_len d2]; exact hl)), fun p hp => ?_⟩
    have G2 := Grow.new (o := .lst vs) G1.z hp
    refine hq (g b) qb _ _ _ (G1.trans G2) ?_
    rw [e2]
    exact .lst (.inl (.inl (un_iff.mpr updF_same))) (dpa_mono G2.un d2)) he)
/-! subscripts -/
theorem em_ix {r : R2} {g : α → β → W γ} (hr : IxR C.X r) (ho : Opn C.X.K r fa fb fc g) (ha : EM C ρ a fa ma) (hb : EM C ρ b fb mb) (hs : PlainIx b := by exact fun _ _ => rfl) : EM C ρ (.Subscript a b pos) fc (ma.bd fun x => mb.bd fun y => g x y) :=
  fun H0 σ F H Q Qp Ep fz s m hq he => wpE_of (pe_ix hr pe_wp pe_wp hs) (bin_run ho ha hb fz s m hq he)
/-! calls of built-ins by values -/
def Can (K : PySem.W.Frag) (r : List V → Hp → VK → Prop) (fa : α → List Sl) (fc : γ → PyData) (g : α → W γ) : Prop :=
  ∀ (x : α) (vs : List V) (F : Fh) (H : Hp) (Q : VK) (Qp : γ → Prop) (Ep : Str → Prop), Fz F H → ArsOk K F (fa x) vs → g x Qp Ep →
    (∀ z, Qp z → ∀ v F' H', Grow F H F' H' → Dp K (un F') v (fc z) → Q v H') → r vs H Q
theorem can_run {r : List V → Hp → VK → Prop} {f : β → List Sl} {g : β → W γ} (ho : Can C.X.K r f fc g) (ha : AM C ρ es f mb) {H0 : Hp} {σ : L2.St} {F : Fh} {H : Hp} {Q : VK} {Qp : γ → Prop} {Ep : Str → Prop}
    (fz : Fz F H) (s : Sls C.kt H0 ρ σ F H) (m : (mb.bd g) Qp Ep) (hq : ∀ x, Qp x → ∀ v F' H', Grow F H F' H' → Dp C.X.K (un F') v (fc x) → Q v H')
    (he : ∀ c, Ep c → ∀ F' H', Grow F H F' H' → C.Ee (.ref (C.ca c)) none H') : tCB r (wpA C.X es) σ H Q :=
  ha.run H0 σ F H _ _ Ep fz s m (fun x qx vs F1 H1 G1 d1 => ho x vs F1 H1 Q Qp Ep G1.z d1 qx fun z qz v F2 H2 G2 d2 => hq z qz v F2 H2 (G1.trans G2) d2) he
theorem all_head {P : Expr → Bool} (h : (e :: es).all P = true) : P e = true ∧ es.all P = true := by
  rw [List.all_cons, Bool.and_eq_true] at h; exact h
theorem em_callB {r : List V → Hp → VK → Prop} {f : β → List Sl} {g : β → W γ} {id : String} {x : Str} {p : Pos} (hr : CallR C.X (.builtin id) r) (ho : Can C.X.K r f fc g) (hg : Gl C.X x := by rfl) (hm : C.X.mg x = none) (hv : bootBuiltins x = some (.builtin id)) (ha : AM C ρ (e :: es) f mb)
    (hn : x ≠ "__name__" := by decide) (hdb : (x == ("__debug__" : Str)) = false := by decide) : EM C ρ (.Call (.Name x p) (e :: es) [] pos) fc (mb.bd g) := fun H0 σ F H Q Qp Ep fz s m hq he =>
  wpE_of (pe_callB hr hg hm hv pa_wp hn hdb (star_of (all_head ha.st).1 _) (back_of (all_head ha.st).2 _ _)) (can_run ho ha fz s m hq he)
theorem em_callTy {r : List V → Hp → VK → Prop} {f : β → List Sl} {g : β → W γ} {T : String} {x : Str} {p : Pos} (hr : CallR C.X (.type T) r) (ho : Can C.X.K r f fc g) (hg : Gl C.X x := by rfl) (hm : C.X.mg x = none) (hv : bootBuiltins x = some (.type T)) (ha : AM C ρ (e :: es) f mb)
    (hn : x ≠ "__name__" := by decide) (hdb : (x == ("__debug__" : Str)) = false := by decide) : EM C ρ (.Call (.Name x p) (e :: es) [] pos) fc (mb.bd g) := fun H0 σ F H Q Qp Ep fz s m hq he =>
  wpE_of (pe_callTy hr hg hm hv pa_wp hn hdb (star_of (all_head ha.st).1 _) (back_of (all_head ha.st).2 _ _)) (can_run ho ha fz s m hq he)
/-! calls of the program's own defs -/
structure Sg where
  {A R : Type}
  ar : A → List Sl
  fr : R → PyData
  m : A → W R
def Sg.sp (S : Sg) (K : PySem.W.Frag) (ca : Str → Addr) (T : List (Addr × FO)) : Sp := fun vs H Q E =>
  ∃ (F : Fh) (x : S.A) (Qp : S.R → Prop) (Ep : Str → Prop), Fz F H ∧ (∀ p ∈ T, F p.1 = some p.2) ∧ ArsOk K F (S.ar x) vs ∧ S.m x Qp Ep ∧ (∀ r, Qp r → ∀ v F' H', Grow F H F' H' → Dp K (un F') v (S.fr r) → Q v H') ∧
    (∀ c, Ep c → ∀ F' H', Grow F H F' H' → E (.ref (ca c)) none H')
structure Cal (P : Program) (w : World) (K : PySem.W.Frag) (mg : Str → Option Value) (base : Heap) (ca : Str → Addr) (T : List (Addr × FO)) (k : Nat) (x : Str) (S : Sg) (dd : List Sl) : Prop where
  ex : ∃ (f : Addr) (fd : FuncData) (ps : List Str) (dvs : List V) (ds : List Value), FnOk P w K mg base (L2.CX P w) k f fd ps (S.sp K ca T) ∧ mg x = some (.ref f) ∧ PySem.W.keepIn K (.ref f) = true ∧ Binds K fd ps ds ∧ Vals dvs ds ∧ ∀ F, ArsOk K F dd dvs
theorem ars_app {K : PySem.W.Frag} {F : Fh} : ∀ {xs ys : List Sl} {vs us : List V}, ArsOk K F xs vs → ArsOk K F ys us → ArsOk K F (xs ++ ys) (vs ++ us)
  | _, _, _, _, .nil, h => h
  | _, _, _, _, .cons a r, h => .cons a (ars_app r h)
theorem em_call {S : Sg} {k : Nat} {x : Str} {p : Pos} {f : β → List Sl} {dd : List Sl} (h : Cal C.X.prog C.X.w C.X.K C.X.mg C.X.base C.ca C.T k x S dd) (hk : k ≤ C.k := by first | exact Nat.le_refl _ | exact Nat.le_of_ble_eq_true rfl) (hg : Gl C.X x := by rfl) (ha : AM C ρ (e :: es) f mb) (g : β → S.A) (hf : ∀ b, S.ar (g b) = f b ++ dd) (hdb : (x == ("__debug__" : Str)) = false := by decide) :
    EM C ρ (.Call (.Name x p) (e :: es) [] pos) S.fr (mb.bd fun b => S.m (g b)) := fun H0 σ F H Q Qp Ep fz s m hq he => by
  obtain ⟨fa, fd, ps, dvs, ds, hF, hm, hkp, hb, hd, hdd⟩ := h.ex
  refine wpE_of (pe_call hF (C.room.mono hk) hg hm hkp hb hd C.pass pa_wp hdb (star_of (all_head ha.st).1 _) (back_of (all_head ha.st).2 _ _)) ?_
  refine ha.run H0 σ F H _ _ Ep fz s m (fun b qb vs F1 H1 G1 d1 => ?_) he
  exact ⟨F1, g b, Qp, Ep, G1.z, (s.grow G1).tb, by rw [hf]; exact ars_app d1 (hdd F1), qb, fun r qr v F2 H2 G2 d2 => hq r qr v F2 H2 (G1.trans G2) d2, fun c ec F2 H2 G2 => he c ec F2 H2 (G1.trans G2)⟩
theorem em_call0 {S : Sg} {k : Nat} {x : Str} {p : Pos} {dd : List Sl} (h : Cal C.X.prog C.X.w C.X.K C.X.mg C.X.base C.ca C.T k x S dd) (hk : k ≤ C.k := by first | exact Nat.le_refl _ | exact Nat.le_of_ble_eq_true rfl) (hg : Gl C.X x := by rfl) (z : S.A) (hf : S.ar z = dd) (hdb : (x == ("__debug__" : Str)) = false := by decide) :
    EM C ρ (.Call (.Name x p) [] [] pos) S.fr (S.m z) := fun H0 σ F H Q Qp Ep fz s m hq he => by
  obtain ⟨fa, fd, ps, dvs, ds, hF, hm, hkp, hb, hd, hdd⟩ := h.ex
  refine wpE_of (pe_call0 hF (C.room.mono hk) hg hm hkp hb hd C.pass hdb) ?_
  exact ⟨F, z, Qp, Ep, fz, s.tb, by rw [hf]; exact hdd F, m, hq, he⟩
end
end Wl
namespace Wl
open PySem PySem.Spec PyProof.Rows L2
/-! ### 7. what is walked -/
structure Wlk (K : PySem.W.Frag) (J : It) (ds : List PyData) (T : Fh → Hp → Prop) : Prop where
  len : ds.length ≤ sizeLine
  go : ∀ i F H, Fz F H → T F H → i < ds.length → J.go i H
  yld : ∀ i F H x H', Fz F H → T F H → i < ds.length → J.yld i H x H' → ∃ F' d, Grow F H F' H' ∧ ds[i]? = some d ∧ Dp K (un F') x d
  stop : ∀ F H, Fz F H → T F H → J.stop ds.length H
def IM {α : Type} (C : Ct) (ρ : List Sl) (tg iter : Expr) (f : α → PyData) (m : W (List α)) : Prop :=
  ∀ (H0 : Hp) (σ : L2.St) (F : Fh) (H : Hp) (R : It → Hp → Prop) (Qp : List α → Prop) (Ep : Str → Prop), Fz F H → Sls C.kt H0 ρ σ F H → m Qp Ep →
    (∀ xs, Qp xs → ∀ J F' H', Grow F H F' H' → Wlk C.X.K J (xs.map f) (fun F2 _ => ∀ a o, F' a = some o → F2 a = some o) → R J H') →
    (∀ c, Ep c → ∀ F' H', Grow F H F' H' → C.Ee (.ref (C.ca c)) none H') → wpI C.X tg iter σ H R
/-- .. where the walked thing may be a list of one's own (in a comprehension) -/
def IO {α : Type} (C : Ct) (ρ : List Sl) (tg iter : Expr) (f : α → PyData) (m : W (List α)) : Prop :=
  ∀ (H0 : Hp) (σ : L2.St) (F : Fh) (H : Hp) (R : It → Hp → Prop) (Qp : List α → Prop) (Ep : Str → Prop), Fz F H → Sls C.kt H0 ρ σ F H → m Qp Ep →
    (∀ xs, Qp xs → ∀ J F' H', Grow F H F' H' → Wlk C.X.K J (xs.map f) (fun F2 H2 => Grow F' H' F2 H2) → R J H') →
    (∀ c, Ep c → ∀ F' H', Grow F H F' H' → C.Ee (.ref (C.ca c)) none H') → wpI C.X tg iter σ H R
section
variable {C : Ct} {ρ : List Sl} {tg iter e : Expr} {α β γ : Type} {f : α → PyData} {fb : β → PyData} {m : W (List α)} {pos : Pos}
theorem IM.o (h : IM C ρ tg iter f m) : IO C ρ tg iter f m := fun H0 σ F H R Qp Ep fz s mq hq he =>
  h H0 σ F H R Qp Ep fz s mq (fun xs qx J F' H' G w => hq xs qx J F' H' G ⟨w.len, fun i F2 H2 z t => w.go i F2 H2 z t.f, fun i F2 H2 x H3 z t => w.yld i F2 H2 x H3 z t.f, fun F2 H2 z t => w.stop F2 H2 z t.f⟩) he
theorem sql_un {K : PySem.W.Frag} {F : Fh} {H : Hp} (z : Fz F H) {a : Addr} {xs : List V} (h : SqL K (un F) a xs) : SqL K H a xs := sql_mono z.un h
theorem sqt_un {K : PySem.W.Frag} {F : Fh} {H : Hp} (z : Fz F H) {a : Addr} {xs : List V} (h : SqT K (un F) a xs) : SqT K H a xs := sqt_mono z.un h
theorem un_sub {F F2 : Fh} (t : ∀ a o, F a = some o → F2 a = some o) : ∀ a o, un F a = some o → un F2 a = some o := fun a o h => un_iff.mpr (t a _ (un_iff.mp h))
/-- two lists told of one address are one -/
theorem sql_inj {K : PySem.W.Frag} {H : Hp} {a : Addr} {xs ys : List V} (h : H a = some (.lst xs)) (nk : ∀ o, K.lookup a = some o → H a = none) (h' : SqL K H a ys) : ys = xs := by
  rcases h' with (h' | ⟨o, h'⟩) | ⟨o, _, _, hk, _⟩
  · rw [h] at h'; cases h'; rfl
  · rw [h] at h'; cases h'
  · rw [nk o hk] at h; cases h
theorem wlk_list {K : PySem.W.Frag} {a : Addr} {vs : List V} {ds : List PyData} {F : Fh} (hl : vs.length ≤ sizeLine) (h : SqL K (un F) a vs) (d : DpAll K (un F) vs ds) : Wlk K (Itl K a) ds (fun F2 _ => ∀ a o, F a = some o → F2 a = some o) := by
  refine ⟨by rw [← dpa_len d]; exact hl, fun i F2 H2 z t hi => ?_, fun i F2 H2 x H3 z t hi y => ?_, fun F2 H2 z t => ?_⟩
  · have hv : i < vs.length := by rw [dpa_len d]; exact hi
    exact ⟨vs, vs[i], sql_un z (sql_mono (un_sub t) h), List.getElem?_eq_getElem hv⟩
  · obtain ⟨rfl, hx⟩ := y
    have e := hx vs (sql_un z (sql_mono (un_sub t) h))
    obtain ⟨d', e1, e2⟩ := dpa_get' d e
    exact ⟨F2, d', Grow.refl z, e1, dp_mono (un_sub t) e2⟩
  · exact ⟨vs, sql_un z (sql_mono (un_sub t) h), by rw [dpa_len d]; exact Nat.le_refl _⟩
theorem wlk_tup {K : PySem.W.Frag} {a : Addr} {vs : List V} {ds : List PyData} {F : Fh} (hl : vs.length ≤ sizeLine) (h : SqT K (un F) a vs) (d : DpAll K (un F) vs ds) : Wlk K (Itt K a) ds (fun F2 _ => ∀ a o, F a = some o → F2 a = some o) := by
  refine ⟨by rw [← dpa_len d]; exact hl, fun i F2 H2 z t hi => ?_, fun i F2 H2 x H3 z t hi y => ?_, fun F2 H2 z t => ?_⟩
  · have hv : i < vs.length := by rw [dpa_len d]; exact hi
    exact ⟨vs, vs[i], sqt_un z (sqt_mono (un_sub t) h), List.getElem?_eq_getElem hv⟩
  · obtain ⟨rfl, hx⟩ := y
    have e := hx vs (sqt_un z (sqt_mono (un_sub t) h))
    obtain ⟨d', e1, e2⟩ := dpa_get' d e
    exact ⟨F2, d', Grow.refl z, e1, dp_mono (un_sub t) e2⟩
  · exact ⟨vs, sqt_un z (sqt_mono (un_sub t) h), by rw [dpa_len d]; exact Nat.le_refl _⟩
theorem inv_len {X : Cx} {pins : List (Addr × Obj)} {σ : L2.St} {H : Hp} {s : Shared} (I : Inv X pins σ H s) {a : Addr} {xs : List V} (h : SqL X.K H a xs) : xs.length ≤ sizeLine := by
  obtain ⟨its, r, _, hz⟩ := I.list h
  have := r.length
  first
    | (rw [this]; simpa using hz)
    | omega
theorem inv_lenT {X : Cx} {pins : List (Addr × Obj)} {σ : L2.St} {H : Hp} {s : Shared} (I : Inv X pins σ H s) {a : Addr} {xs : List V} (h : SqT X.K H a xs) : xs.length ≤ sizeLine := by
  obtain ⟨its, r, _, hz⟩ := I.tuple h
  have := r.length
  first
    | (rw [this]; simpa using hz)
    | omega
/-- the length is known to the state -/
theorem wpE_inv {X : Cx} {e : Expr} {σ : L2.St} {H : Hp} {Q : VK} (h : ∀ pins s, Inv X pins σ H s → wpE X e σ H Q) : wpE X e σ H Q := fun pins s I => h pins s I pins s I
theorem im_list (h : EM C ρ e (lD f) m) : IM C ρ tg e f m := fun H0 σ F H R Qp Ep fz s mq hq he pins s0 I => by
  refine (pi_list (tl := fun σ H Q => wpE C.X e σ H Q) pe_wp).run pins s0 σ H R I ?_
  refine fun pins1 s1 I1 => ?_
  have key := h H0 σ F H (fun v H' => ∃ xs F', Qp xs ∧ Grow F H F' H' ∧ Dp C.X.K (un F') v (lD f xs)) Qp Ep fz s mq (fun x qx v F' H' G d => ⟨x, F', qx, G, d⟩) he pins1 s1 I1
  refine thn key fun u s2 ⟨v, H2, I2, r, xs, F2, qx, G, d⟩ => ?_
  obtain ⟨a, vs, e1, hs, hd⟩ := dp_lst d
  subst e1
  have hs' := sql_un G.z hs
  exact ⟨_, H2, I2, r, a, rfl, ⟨vs, hs'⟩, hq xs qx _ F2 H2 G (wlk_list (inv_len I2 hs') hs hd)⟩
theorem im_tup (h : EM C ρ e (tD f) m) : IM C ρ tg e f m := fun H0 σ F H R Qp Ep fz s mq hq he pins s0 I => by
  refine (pi_tup (tl := fun σ H Q => wpE C.X e σ H Q) pe_wp).run pins s0 σ H R I ?_
  refine fun pins1 s1 I1 => ?_
  have key := h H0 σ F H (fun v H' => ∃ xs F', Qp xs ∧ Grow F H F' H' ∧ Dp C.X.K (un F') v (tD f xs)) Qp Ep fz s mq (fun x qx v F' H' G d => ⟨x, F', qx, G, d⟩) he pins1 s1 I1
  refine thn key fun u s2 ⟨v, H2, I2, r, xs, F2, qx, G, d⟩ => ?_
  obtain ⟨a, vs, e1, hs, hd⟩ := dp_tup d
  subst e1
  have hs' := sqt_un G.z hs
  exact ⟨_, H2, I2, r, a, rfl, ⟨vs, hs'⟩, hq xs qx _ F2 H2 G (wlk_tup (inv_lenT I2 hs') hs hd)⟩
/-- a list of one's own, by its name -/
theorem io_own (i : Nat) {x : Str} {xs : List α} (h : ρ[i]? = some (.ow (xs.map f))) (hN : C.X.N[i]? = some x := by rfl) (hv : Vis C.X.env.scope x := by first | exact .inl rfl | exact .inr (.inl rfl) | exact .inr (.inr rfl)) (hd : (x == ("__debug__" : Str)) = false := by decide) (hcd : (x == ("__classdict__" : Str)) = false := by decide) :
    IO C ρ tg (.Name x pos) f (.ret xs) := fun H0 σ F H R Qp Ep fz s mq hq he pins s0 I => by
  obtain ⟨v, h1, a, vs, e1, h2, h3, h4, h5⟩ := s.at h
  refine (pi_list (pe_var (i := i) hN hv hd hcd)).run pins s0 σ H R I ⟨.ref a, by rw [h1, e1], a, rfl, ⟨vs, .inl (.inl h4)⟩, ?_⟩
  refine hq xs mq _ F H (Grow.refl fz) ⟨by rw [← dpa_len h5]; exact inv_len I (.inl (.inl h4)), fun i F2 H2 z t hi => ?_, fun i F2 H2 x H3 z t hi y => ?_, fun F2 H2 z t => ?_⟩
  · have hvl : i < vs.length := by rw [dpa_len h5]; exact hi
    exact ⟨vs, vs[i], .inl (.inl (t.k a _ h2 h4).1), List.getElem?_eq_getElem hvl⟩
  · obtain ⟨rfl, hx⟩ := y
    have e := hx vs (.inl (.inl (t.k a _ h2 h4).1))
    obtain ⟨d', e2, e3⟩ := dpa_get' h5 e
    exact ⟨F2, d', Grow.refl z, e2, dp_mono t.un e3⟩
  · exact ⟨vs, .inl (.inl (t.k a _ h2 h4).1), by rw [dpa_len h5]; exact Nat.le_refl _⟩
theorem im_as {g : β → PyData} (h : IM C ρ tg iter f m) (k : α → β) (hk : ∀ x, f x = g (k x)) : IM C ρ tg iter g (m.bd fun xs => .ret (xs.map k)) := fun H0 σ F H R Qp Ep fz s mq hq he =>
  h H0 σ F H R _ Ep fz s mq (fun xs qx J F' H' G w => hq (xs.map k) qx J F' H' G (by
    have e : xs.map f = (xs.map k).map g := by
      rw [List.map_map]
      exact congrArg (fun z => xs.map z) (funext hk)
    rw [← e]; exact w)) he
/-- range(n), range(a, b) -/
def rgL (a b : Int) : List Int := (List.range (b - a).toNat).map fun i : Nat => a + (i : Int)
def RgOk (a b : Int) : Prop := -(2 ^ 62) ≤ a ∧ a < 2 ^ 62 ∧ -(2 ^ 62) ≤ b ∧ b < 2 ^ 62 ∧ (b - a).toNat ≤ sizeLine
theorem wlk_range {K : PySem.W.Frag} {a b : Int} {T : Fh → Hp → Prop} (h : (b - a).toNat ≤ sizeLine) : Wlk K (Itr a (b - a).toNat) ((rgL a b).map iD) T := by
  have hl : ((rgL a b).map iD).length = (b - a).toNat := by rw [List.length_map, rgL, List.length_map, List.length_range]
  refine ⟨by rw [hl]; exact h, fun i F2 H2 z t hi => by rw [hl] at hi; exact hi, fun i F2 H2 x H3 z t hi y => ?_, fun F2 H2 z t => by rw [hl]; exact Nat.le_refl _⟩
  obtain ⟨rfl, rfl⟩ := y
  rw [hl] at hi
  refine ⟨F2, .int (a + (i : Int)), Grow.refl z, ?_, .int _⟩
  rw [List.getElem?_map, rgL, List.getElem?_map, List.getElem?_range hi]
  rfl
theorem im_range1 {e : Expr} {p : Pos} {m : W Int} (hg : Gl C.X "range" := by rfl) (hm : C.X.mg "range" = none) (h : EM C ρ e iD m) (hs : noStar e = true := by rfl) : IM C ρ tg (.Call (.Name "range" p) [e] [] pos) iD (m.bd fun n => W.need (RgOk 0 n) (.ret (rgL 0 n))) := fun H0 σ F H R Qp Ep fz s mq hq he =>
  wpI_of (pi_range1 hg hm (pa_cons pe_wp pa_nil (star_of hs _)) (star_of hs _)) (h H0 σ F H _ _ Ep fz s mq (fun n ⟨ok, qn⟩ v F' H' G d => by
    rw [dp_int d]
    refine ⟨n, rfl, ok.2.2.1, ok.2.2.2.1, hq _ qn _ F' H' G ?_⟩
    have e : n.toNat = (n - 0).toNat := by rw [Int.sub_zero]
    rw [e]
    exact wlk_range ok.2.2.2.2) he)
theorem im_range2 {e e2 : Expr} {p : Pos} {m m2 : W Int} (hg : Gl C.X "range" := by rfl) (hm : C.X.mg "range" = none) (h : EM C ρ e iD m) (h2 : EM C ρ e2 iD m2) (hs : noStar e = true := by rfl) (hs2 : noStar e2 = true := by rfl) :
    IM C ρ tg (.Call (.Name "range" p) [e, e2] [] pos) iD (m.bd fun a => m2.bd fun b => W.need (RgOk a b) (.ret (rgL a b))) := fun H0 σ F H R Qp Ep fz s mq hq he =>
  wpI_of (pi_range2 hg hm (pa_cons pe_wp (pa_cons pe_wp pa_nil (star_of hs2 _)) (star_of hs _)) (by rw [star_of hs, star_of hs2]; rfl) (by rw [star_of hs2]; rfl))
    (h H0 σ F H _ _ Ep fz s mq (fun a qa v F' H' G d => h2 H0 σ F' H' _ _ Ep G.z (s.grow G) qa (fun b ⟨ok, qb⟩ u F2 H2 G2 d2 => by
      rw [dp_int d, dp_int d2]
      exact ⟨a, b, rfl, ⟨ok.1, ok.2.1, ok.2.2.1, ok.2.2.2.1⟩, hq _ qb _ F2 H2 (G.trans G2) (wlk_range ok.2.2.2.2)⟩) fun c ec F2 H2 G2 => he c ec F2 H2 (G.trans G2)) he)
/-! ### 8. targets -/
def GM (C : Ct) (tg : Expr) (d : PyData) (js : List Nat) (r : List Sl → List Sl) : Prop :=
  ∀ (ρ : List Sl) (H0 : Hp) (σ : L2.St) (F : Fh) (H : Hp) (v : V) (Q : L2.St → Hp → Prop), Fz F H → Sls C.kt H0 ρ σ F H → Dp C.X.K (un F) v d →
    (∀ σ', Sls C.kt H0 (r ρ) σ' F H → (∀ vs : List Nat, (∀ j ∈ js, j ∈ vs) → wipe σ' vs = wipe σ vs) → Q σ' H) → wpG C.X tg v σ H Q
theorem wipe_len (σ : L2.St) : ∀ vs : List Nat, (wipe σ vs).length = σ.length
  | [] => rfl
  | v :: vs => by unfold wipe; rw [List.length_set, wipe_len σ vs]
theorem wipe_get (σ : L2.St) (j : Nat) : ∀ vs : List Nat, (wipe σ vs)[j]? = if j ∈ vs ∧ j < σ.length then some none else σ[j]?
  | [] => by rw [if_neg (by simp)]; rfl
  | v :: vs => by
    unfold wipe
    by_cases e : v = j
    · subst e
      by_cases hl : v < σ.length
      · rw [List.getElem?_set_self (by rw [wipe_len]; exact hl), if_pos ⟨List.mem_cons_self, hl⟩]
      · rw [if_neg (fun z => hl z.2), List.getElem?_eq_none (by rw [List.length_set, wipe_len]; omega), List.getElem?_eq_none (by omega)]
    · rw [List.getElem?_set_ne e, wipe_get σ j vs]
      have this : (j ∈ v :: vs ∧ j < σ.length) ↔ (j ∈ vs ∧ j < σ.length) := by
        rw [List.mem_cons]
        exact ⟨fun z => ⟨z.1.elim (fun q => absurd q.symm e) id, z.2⟩, fun z => ⟨.inr z.1, z.2⟩⟩
      by_cases q : j ∈ vs ∧ j < σ.length
      · rw [if_pos q, if_pos (this.mpr q)]
      · rw [if_neg q, if_neg (fun z => q (this.mp z))]
theorem wipe_set (σ : L2.St) (i : Nat) (x : Option V) {vs : List Nat} (h : i ∈ vs) : wipe (σ.set i x) vs = wipe σ vs := by
  refine List.ext_getElem? fun j => ?_
  rw [wipe_get, wipe_get, List.length_set]
  by_cases e : i = j
  · subst e
    by_cases hl : i < σ.length
    · rw [if_pos ⟨h, hl⟩, if_pos ⟨h, hl⟩]
    · rw [if_neg (fun z => hl z.2), if_neg (fun z => hl z.2), List.getElem?_eq_none (by rw [List.length_set]; omega), List.getElem?_eq_none (by omega)]
  · rw [List.getElem?_set_ne e]
theorem wipe_wipe (σ : L2.St) (vs : List Nat) : wipe (wipe σ vs) vs = wipe σ vs := by
  refine List.ext_getElem? fun j => ?_
  rw [wipe_get, wipe_len, wipe_get]
  split <;> rfl
theorem gm_name (i : Nat) {x : Str} {d : PyData} (hi : C.X.N[i]? = some x := by rfl) (hx : Loc C.X.env.scope x := by first | exact .inl rfl | exact .inr rfl) (hf : C.X.fn x = true ∨ C.X.env.scope.names.lookup x = some .local) : GM C (.Name x pos) d [i] (fun ρ => ρ.set i (.d d)) := fun ρ H0 σ F H v Q fz s dv hq =>
  wpG_of (pg_name (i := i) C.nd hi hx hf) (hq _ (s.set i (fun _ z => nomatch z) ⟨v, rfl, dv⟩) fun vs hv => wipe_set σ i _ (hv i List.mem_cons_self))
structure GMs (C : Ct) (tgs : List Expr) (ds : List PyData) (js : List Nat) (r : List Sl → List Sl) : Prop where
  run : ∀ (ρ : List Sl) (H0 : Hp) (σ : L2.St) (F : Fh) (H : Hp) (vs : List V) (pins : List (Addr × Obj)) (s : Shared) (us : List Value) (Q : L2.St → Hp → Prop), Fz F H → Sls C.kt H0 ρ σ F H → DpAll C.X.K (un F) vs ds → Inv C.X pins σ H s → Vals vs us →
    (∀ σ', Sls C.kt H0 (r ρ) σ' F H → (∀ vs : List Nat, (∀ j ∈ js, j ∈ vs) → wipe σ' vs = wipe σ vs) → Q σ' H) →
    wpAny (model C.X.prog C.X.w) C.X.A (assignInOrder ((assignEach tgs C.X.env).map (·.2)) us) (fun _ s' => ∃ σ' H', Inv C.X pins σ' H' s' ∧ Q σ' H') C.X.xe s
def wpGs (X : Cx) (tgs : List Expr) : TGs := fun vs σ H Q => ∀ pins s us, Inv X pins σ H s → Vals vs us → wpAny (model X.prog X.w) X.A (assignInOrder ((assignEach tgs X.env).map (·.2)) us) (fun _ s' => ∃ σ' H', Inv X pins σ' H' s' ∧ Q σ' H') X.xe s
theorem pgs_wp {X : Cx} {tgs : List Expr} : PGs X tgs (wpGs X tgs) := ⟨fun pins s _ _ _ us _ I r h => h pins s us I r⟩
theorem gms_nil : GMs C [] [] [] (fun ρ => ρ) := ⟨fun ρ H0 σ F H vs pins s us Q fz sl d I r hq => by
  cases d
  exact pgs_nil.run pins s σ H [] us Q I r ⟨rfl, hq σ sl fun _ _ => rfl⟩⟩
theorem gms_cons {tgs : List Expr} {d : PyData} {ds : List PyData} {j1 j2 : List Nat} {r1 r2 : List Sl → List Sl} (h : GM C tg d j1 r1) (hr : GMs C tgs ds j2 r2) (hs : (assignEach (tg :: tgs) C.X.env).map (·.2) = assign tg C.X.env :: (assignEach tgs C.X.env).map (·.2) := by rfl) :
    GMs C (tg :: tgs) (d :: ds) (j1 ++ j2) (fun ρ => r2 (r1 ρ)) := ⟨fun ρ H0 σ F H vs pins s us Q fz sl dd I r hq => by
  cases dd with
  | cons d1 d2 =>
    refine (pgs_cons pg_wp pgs_wp hs).run pins s σ H _ us Q I r ⟨_, _, rfl, ?_⟩
    refine h ρ H0 σ F H _ _ fz sl d1 fun σ' sl' hw => ?_
    intro pins2 s2 us2 I2 rr2
    exact hr.run (r1 ρ) H0 σ' F H _ pins2 s2 us2 Q fz sl' d2 I2 rr2 fun σ2 sl2 hw2 => hq σ2 sl2 fun vs hv => by
      rw [hw2 vs fun j hj => hv j (List.mem_append_right _ hj), hw vs fun j hj => hv j (List.mem_append_left _ hj)]⟩
theorem gm_tup {tgs : List Expr} {ds : List PyData} {js : List Nat} {k : Nat} {r : List Sl → List Sl} (h : GMs C tgs ds js r) (hn : (assignEach tgs C.X.env).length = ds.length := by rfl) (hst : (assignEach tgs C.X.env).findIdx? (·.1) = none := by rfl) :
    GM C (.Tuple tgs k pos) (.tuple ds) js r := fun ρ H0 σ F H v Q fz s dv hq => by
  obtain ⟨a, xs, e, h1, h2⟩ := dp_tup dv
  refine wpG_of (pg_tup (n := ds.length) C.calm pgs_wp hn hst) ⟨a, xs, e, sqt_un fz h1, dpa_len h2, ?_⟩
  intro pins s2 us I r2
  exact h.run ρ H0 σ F H xs pins s2 us Q fz s h2 I r2 hq
/-! ### 9. comprehensions -/
def W.calm (m : W α) : W α := fun Q _ => m Q (fun _ => False)
def W.fm {α β : Type} : List α → (α → W (Option β)) → W (List β)
  | [], _ => .ret []
  | x :: xs, h => (h x).bd fun o => (W.fm xs h).bd fun ys => .ret (match o with
    | some y => y :: ys
    | none => ys)
def W.mp {α β : Type} : List α → (α → W β) → W (List β)
  | [], _ => .ret []
  | x :: xs, h => (h x).bd fun y => (W.mp xs h).bd fun ys => .ret (y :: ys)
def Ct.bk (C : Ct) (scope : Scope) (s : Shared) (H : Hp) (c : Addr) (cl : List (Str × Addr)) (fp : List Addr) : Ct where
  X := C.X.blk s H scope (compEnvC scope cl c C.X.env) fp
  T := C.T
  k := C.k
  ca := C.ca
  Ee := E0
  calm := C.calm
  room := C.room
  pass := passL
  tk := takes0
  nd := C.nd
  po := PassesOwn.never
def wipeR (ρ : List Sl) : List Nat → List Sl
  | [] => ρ
  | v :: vs => (wipeR ρ vs).set v .un
theorem Sls.wipe {K : Ktx} {H0 : Hp} {ρ : List Sl} {σ : L2.St} {F : Fh} {H : Hp} (s : Sls K H0 ρ σ F H) : ∀ vs : List Nat, Sls K H0 (wipeR ρ vs) (L2.wipe σ vs) F H
  | [] => s
  | v :: vs => (Sls.wipe s vs).set v (fun _ z => nomatch z) trivial
def wpTb (X : Cx) (scope : Scope) (e : Expr) : TT := fun σ H Q => ∀ s0 Hz c cl fp, wpT (X.blk s0 Hz scope (compEnvC scope cl c X.env) fp) e σ H Q
def wpEb (X : Cx) (scope : Scope) (e : Expr) : TE := fun σ H Q => ∀ s0 Hz c cl fp, wpE (X.blk s0 Hz scope (compEnvC scope cl c X.env) fp) e σ H Q
def wpGb (X : Cx) (scope : Scope) (tg : Expr) : TG := fun v σ H Q => ∀ s0 Hz c cl fp, wpG (X.blk s0 Hz scope (compEnvC scope cl c X.env) fp) tg v σ H Q
/-- a comprehension's turn: how its tests and its element go, by the wish h -/
def Tn {β : Type} (C : Ct) (ρ : List Sl) (tt : TT) (te : TE) (f : β → PyData) (h : W (Option β)) : Prop :=
  ∀ (H0 : Hp) (σ : L2.St) (F : Fh) (H : Hp) (Qp : Option β → Prop) (Qt : VK) (Qf : Hp → Prop), Fz F H → Sls C.kt H0 ρ σ F H → h Qp (fun _ => False) →
    (∀ y, Qp (some y) → ∀ v F' H', Grow F H F' H' → Dp C.X.K (un F') v (f y) → Qt v H') → (Qp none → ∀ F' H', Grow F H F' H' → Qf H') →
    tt σ H fun b H3 => if b = true then te σ H3 Qt else Qf H3
theorem tn_all {scope : Scope} {elt : Expr} {h : W β} (he : ∀ s0 Hz c cl fp, EM (C.bk scope s0 Hz c cl fp) ρ elt fb h) : Tn C ρ tYes (wpEb C.X scope elt) fb (h.bd fun y => .ret (some y)) := fun H0 σ F H Qp Qt Qf fz s mq h1 h2 => by
  show (if true = true then wpEb C.X scope elt σ H Qt else Qf H)
  rw [if_pos rfl]
  intro s0 Hz c cl fp
  exact he s0 Hz c cl fp H0 σ F H Qt _ _ fz s mq (fun y qy v F' H' G d => h1 y qy v F' H' G d) fun _ z => z.elim
theorem tn_if {scope : Scope} {elt cnd : Expr} {h : W β} {mc : W Bool} (hc : ∀ s0 Hz c cl fp, TM (C.bk scope s0 Hz c cl fp) ρ cnd mc) (he : ∀ s0 Hz c cl fp, EM (C.bk scope s0 Hz c cl fp) ρ elt fb h) :
    Tn C ρ (wpTb C.X scope cnd) (wpEb C.X scope elt) fb (mc.bd fun k => W.ite k (h.bd fun y => .ret (some y)) (.ret none)) := fun H0 σ F H Qp Qt Qf fz s mq h1 h2 => by
  intro s0 Hz c cl fp
  refine hc s0 Hz c cl fp H0 σ F H _ _ _ fz s mq (fun k qk F' H' G => ?_) fun _ z => z.elim
  cases k with
  | true =>
    rw [if_pos rfl]
    intro s1 Hz1 c1 cl1 fp1
    exact he s1 Hz1 c1 cl1 fp1 H0 σ F' H' Qt _ _ G.z (s.grow G) (ite_t rfl qk) (fun y qy v F2 H2 G2 d => h1 y qy v F2 H2 (G.trans G2) d) fun _ z => z.elim
  | false =>
    rw [if_neg Bool.false_ne_true]
    exact h2 (ite_f rfl qk) F' H' G
/-- the loop -/
theorem lc_read {vs : List Nat} {r : α → List Sl → List Sl} {tt : TT} {te : TE} {h : α → W (Option β)} {g : TG} (hi : IO C ρ tg iter f m) (hg : ∀ x, ∀ (ρ : List Sl) (H0 : Hp) (σ : L2.St) (F : Fh) (H : Hp) (v : V) (Q : L2.St → Hp → Prop), Fz F H → Sls C.kt H0 ρ σ F H → Dp C.X.K (un F) v (f x) →
      (∀ σ', Sls C.kt H0 (r x ρ) σ' F H → wipe σ' vs = wipe σ vs → Q σ' H) → g v σ H Q)
    (ht : ∀ x, Tn C (r x (wipeR ρ vs)) tt te fb (h x)) {H0 : Hp} {σ : L2.St} {F : Fh} {H : Hp} {Q : VK} {Qp : List β → Prop} {Ep : Str → Prop} (fz : Fz F H) (s : Sls C.kt H0 ρ σ F H) (mq : (m.bd fun xs => W.calm (W.fm xs h)) Qp Ep)
    (hq : ∀ ys, Qp ys → ∀ v F' H', Grow F H F' H' → Dp C.X.K (un F') v (lD fb ys) → Q v H')
    (he : ∀ c, Ep c → ∀ F' H', Grow F H F' H' → C.Ee (.ref (C.ca c)) none H') : tLc (wpI C.X tg iter) g tt te vs σ H Q := by
  refine hi H0 σ F H _ _ Ep fz s mq (fun xs qx J F1 H1 G1 w => fun D hD => ?_) he
  have hn : (xs.map f).length = xs.length := List.length_map ..
  have nD := G1.z.none hD
  refine ⟨fun i n H2 => n = xs.length - i ∧ i ≤ xs.length ∧ ∃ F2 acc ys, Grow F1 H1 F2 H2 ∧ F2 D = none ∧ H2 D = some (.lst acc) ∧ DpAll C.X.K (un F2) acc (ys.map fb) ∧ acc.length ≤ i ∧ (W.fm (xs.drop i) h) (fun zs => Qp (ys ++ zs)) (fun _ => False),
    ⟨xs.length, by omega, Nat.zero_le _, F1, [], [], ?_, nD, upd_same, .nil, Nat.le_refl _, qx⟩, ?_⟩
  · exact Grow.lay G1.z hD
  intro i n H2 ⟨en, hi2, F2, acc, ys, G2, f2, h2, d2, la, q2⟩
  by_cases hlt : i < xs.length
  · refine .inr ⟨w.go i F2 H2 G2.z G2 (by rw [hn]; exact hlt), _, fun H' (z : ∃ _ : Unit, i + 1 ≤ xs.length ∧ ∃ F2 acc ys, Grow F1 H1 F2 H' ∧ F2 D = none ∧ H' D = some (.lst acc) ∧ DpAll C.X.K (un F2) acc (ys.map fb) ∧ acc.length ≤ i + 1 ∧ (W.fm (xs.drop (i + 1)) h) (fun zs => Qp (ys ++ zs)) (fun _ => False)) => ?_, fun x H' y => ?_⟩
    · obtain ⟨_, z⟩ := z
      exact ⟨xs.length - (i + 1), by omega, rfl, z⟩
    obtain ⟨F3, d, G3, e3, dx⟩ := w.yld i F2 H2 x H' G2.z G2 (by rw [hn]; exact hlt) y
    have ex : xs[i]? = some xs[i] := List.getElem?_eq_getElem hlt
    rw [List.getElem?_map, ex] at e3
    obtain rfl : f xs[i] = d := Option.some.inj e3
    have G13 := (G2.trans G3)
    have s3 := (s.grow (G1.trans G13)).wipe vs
    obtain ⟨k1, k2⟩ := G3.k D _ f2 h2
    refine hg xs[i] _ H0 _ F3 H' x _ G3.z s3 dx fun σ' s4 hw => ⟨hw.trans (wipe_wipe σ vs), ?_⟩
    have edrop : xs.drop i = xs[i] :: xs.drop (i + 1) := List.drop_eq_getElem_cons hlt
    rw [edrop] at q2
    have lz := w.len
    rw [hn] at lz
    refine ht xs[i] H0 σ' F3 H' _ _ _ G3.z s4 q2 (fun y qy v F4 H4 G4 d4 => ?_) fun qn F4 H4 G4 => ?_
    · obtain ⟨k3, k4⟩ := G4.k D _ k2 k1
      refine ⟨acc, k3, by omega, (), hlt, F4, acc ++ [v], ys ++ [y], (G13.trans G4).own k4 hD k3, k4, upd_same, ?_, by rw [List.length_append, List.length_singleton]; omega, ?_⟩
      · rw [List.map_append]
        exact dpa_app (dpa_mono (G3.trans G4).un d2) (.cons d4 .nil)
      · have e : (fun zs => Qp (ys ++ [y] ++ zs)) = fun zs => Qp (ys ++ (y :: zs)) := funext fun zs => by rw [List.append_assoc]; rfl
        rw [e]
        exact qy
    · obtain ⟨k3, k4⟩ := G4.k D _ k2 k1
      exact ⟨(), hlt, F4, acc, ys, G13.trans G4, k4, k3, dpa_mono (G3.trans G4).un d2, by omega, qn⟩
  · have ei : i = xs.length := by omega
    refine .inl ⟨by rw [ei, ← hn]; exact w.stop F2 H2 G2.z G2, ?_⟩
    rw [ei, List.drop_length] at q2
    have q3 : Qp (ys ++ []) := q2
    rw [List.append_nil] at q3
    exact hq ys q3 _ _ _ (G1.trans (G2.freeze f2 hD h2)) (.lst (.inl (.inl (un_iff.mpr updF_same))) (dpa_mono (un_sub fun a o q => by
      by_cases e : a = D
      · rw [e, f2] at q; cases q
      · rw [updF_ne e]; exact q) d2))
end
end Wl
namespace Wl
open PySem PySem.Spec PyProof.Rows L2
section
variable {C : Ct} {ρ : List Sl} {tg iter e c elt : Expr} {sts rest A B : List Stmt} {st : Stmt} {α β γ S S' T R : Type} {f : α → PyData} {fb : β → PyData} {fr : R → PyData} {m : W (List α)} {ma : W α} {mc : W Bool} {pos : Pos} {g : S → List Sl} {g' : T → List Sl}
theorem noOw {x : PyData} : ∀ xs, Sl.d x ≠ .ow xs := fun _ z => nomatch z
theorem gm_wipe {d : PyData} {js : List Nat} {r : List Sl → List Sl} {vs : List Nat} {scope : Scope} (hg : ∀ s0 Hz c cl fp, GM (C.bk scope s0 Hz c cl fp) tg d js r) (hj : ∀ j ∈ js, j ∈ vs) {ρ : List Sl} {H0 : Hp} {σ : L2.St} {F : Fh} {H : Hp} {v : V} {Q : L2.St → Hp → Prop}
    (fz : Fz F H) (s : Sls C.kt H0 ρ σ F H) (dv : Dp C.X.K (un F) v d) (hq : ∀ σ', Sls C.kt H0 (r ρ) σ' F H → wipe σ' vs = wipe σ vs → Q σ' H) : wpGb C.X scope tg v σ H Q := fun s0 Hz c cl fp =>
  hg s0 Hz c cl fp ρ H0 σ F H v Q fz s dv fun σ' s' hw => hq σ' s' (hw vs hj)
/-- [elt for tg in iter if ..] -/
theorem em_lc {scope : Scope} {own : List (Str × Nat)} {js : List Nat} {r : α → List Sl → List Sl} {ifs : List Expr} {tt : TT} {h : α → W (Option β)} (hi : IO C ρ tg iter f m) (ok : BlkOk C.X.N C.X.env.scope scope own) (hg : ∀ x, ∀ s0 Hz c cl fp, GM (C.bk scope s0 Hz c cl fp) tg (f x) js (r x)) (hj : ∀ j ∈ js, j ∈ own.map (·.2))
    (hT : ∀ s0 Hz c cl fp, PTs (C.bk scope s0 Hz c cl fp).X ifs tt) (ht : ∀ x, Tn C (r x (wipeR ρ (own.map (·.2)))) tt (wpEb C.X scope elt) fb (h x)) (hs : ∀ x, foldedSetIterable iter C.X.env x = pure x := by intro _; rfl) :
    EM C ρ (.ListComp elt [⟨tg, iter, ifs, 0⟩] scope pos) (lD fb) (m.bd fun xs => W.calm (W.fm xs h)) := fun H0 σ F H Q Qp Ep fz s mq hq he =>
  wpE_of (pe_lc (tt := tt) (te := wpEb C.X scope elt) (g := wpGb C.X scope tg) C.calm C.nd pi_wp ok (fun s0 Hz c cl fp => ⟨fun pins s σ H v u Q I r h => h s0 Hz c cl fp pins s u I r⟩) (fun s0 Hz c cl fp => hT s0 Hz c cl fp) (fun s0 Hz c cl fp => ⟨fun pins s σ H Q I h => h s0 Hz c cl fp pins s I⟩) hs)
    (lc_read (g := wpGb C.X scope tg) hi (fun x ρ H0 σ F H v Q fz s dv hq => gm_wipe (scope := scope) (hg x) hj fz s dv hq) ht fz s mq hq he)
theorem pt_blk {scope : Scope} {c : Expr} : ∀ s0 Hz cc cl fp, PTs (C.bk scope s0 Hz cc cl fp).X [c] (wpTb C.X scope c) := fun s0 Hz cc cl fp => pts_one ⟨fun pins s σ H Q I h => h s0 Hz cc cl fp pins s I⟩
theorem pt_blk0 {scope : Scope} : ∀ s0 Hz cc cl fp, PTs (C.bk scope s0 Hz cc cl fp).X [] tYes := fun s0 Hz cc cl fp => pts_nil
/-! ### 10. statements -/
def M.bd {S T R : Type} (m : M S R) (k : S → M T R) : M T R := fun N R' E => m (fun s => k s N R' E) R' E
def wpS (X : Cx) (st : Stmt) : TS := fun D σ H => ∀ pins s, Inv X pins σ H s → wpAny (model X.prog X.w) X.A (exec st X.env) (SP X pins D) X.xe s
theorem ps_wp {X : Cx} {st : Stmt} : PS X st (wpS X st) := ⟨fun pins s _ _ _ I h => h pins s I⟩
theorem wpS_of {X : Cx} {st : Stmt} {t : TS} (p : PS X st t) {D : Ends} {σ : L2.St} {H : Hp} (h : t D σ H) : wpS X st D σ H := fun pins s I => p.run pins s σ H D I h
def S1 {S R : Type} (C : Ct) (ρ : List Sl) (st : Stmt) (g : S → List Sl) (f : R → PyData) (m : M S R) : Prop :=
  ∀ (F0 : Fh) (H0 : Hp) (σ : L2.St) (F : Fh) (H : Hp) (D : Ends) (N : S → Prop) (R' : R → Prop) (Ep : Str → Prop), Grow F0 H0 F H → Sls C.kt H0 ρ σ F H → m N R' Ep →
    (∀ s, N s → ∀ σ' F' H', Grow F0 H0 F' H' → Sub F F' → Sls C.kt H0 (g s) σ' F' H' → D.nx σ' H') →
    (∀ r, R' r → ∀ v F' H', Grow F0 H0 F' H' → Dp C.X.K (un F') v (f r) → D.rt v H') →
    (∀ c, Ep c → ∀ F' H', Grow F0 H0 F' H' → C.Ee (.ref (C.ca c)) none H') → wpS C.X st D σ H
theorem ss_nil : SM C ρ [] (fun _ : Unit => ρ) fr (fun N _ _ => N ()) := fun F0 H0 σ F H D N R' Ep G s m hn hr he => wpB_of pss_nil (hn () m σ F H G (fun _ _ z => z) s)
theorem ss_cons {m1 : M S R} {m2 : S → M T R} (h1 : S1 C ρ st g fr m1) (h2 : ∀ s, SM C (g s) rest g' fr (m2 s)) : SM C ρ (st :: rest) g' fr (m1.bd m2) := fun F0 H0 σ F H D N R' Ep G s m hn hr he =>
  wpB_of (pss_cons ps_wp pb_wp) (h1 F0 H0 σ F H _ _ R' Ep G s m (fun s1 n1 σ' F' H' G' t' s' => h2 s1 F0 H0 σ' F' H' D N R' Ep G' s' n1 (fun s2 n2 σ2 F2 H2 G2 t2 sl2 => hn s2 n2 σ2 F2 H2 G2 (fun a o z => t2 a o (t' a o z)) sl2) hr he) hr he)
theorem ss_one {m1 : M S R} (h1 : S1 C ρ st g fr m1) : SM C ρ [st] g fr m1 := fun F0 H0 σ F H D N R' Ep G s m hn hr he =>
  wpB_of (pss_one ps_wp) (h1 F0 H0 σ F H D N R' Ep G s m hn hr he)
/-- the state told otherwise -/
theorem ss_map {m1 : M S R} (h : SM C ρ sts g fr m1) (k : S → T) (hk : ∀ s, Wk (g s) (g' (k s))) : SM C ρ sts g' fr (fun N R' E => m1 (fun s => N (k s)) R' E) := fun F0 H0 σ F H D N R' Ep G s m hn hr he =>
  h F0 H0 σ F H D _ R' Ep G s m (fun s1 n1 σ' F' H' G' t' s' => hn (k s1) n1 σ' F' H' G' t' (s'.weak (hk s1))) hr he
theorem ss_end {m1 : M Empty R} {g0 : Empty → List Sl} (h : SM C ρ sts g0 fr m1) : SM C ρ sts g' fr (fun N R' E => m1 (fun _ => False) R' E) := fun F0 H0 σ F H D N R' Ep G s m hn hr he =>
  h F0 H0 σ F H D _ R' Ep G s m (fun s1 _ _ _ _ _ _ _ => s1.elim) hr he
theorem ss_weak {ρ' : List Sl} {m1 : M S R} (w : Wk ρ ρ') (h : SM C ρ' sts g fr m1) : SM C ρ sts g fr m1 := fun F0 H0 σ F H D N R' Ep G s m hn hr he => h F0 H0 σ F H D N R' Ep G (s.weak w) m hn hr he
theorem ss_eqv {m1 m2 : M S R} (h : SM C ρ sts g fr m1) (e : m1 = m2) : SM C ρ sts g fr m2 := e ▸ h
/-- name = e -/
theorem st_set (i : Nat) {x : Str} {pos' : Pos} (h : EM C ρ e f ma) (hi : C.X.N[i]? = some x := by rfl) (hx : Loc C.X.env.scope x := by first | exact .inl rfl | exact .inr rfl) (hs : swapsWith e (some (.Name x pos')) pos.line C.X.env = pure false := by rfl) (hf : C.X.fn x = true ∨ C.X.env.scope.names.lookup x = some .local := by first | exact .inl rfl | exact .inr rfl) :
    S1 C ρ (.Assign [.Name x pos'] e pos) (fun z => ρ.set i (.d (f z))) fr (fun N _ E => ma N E) := fun F0 H0 σ F H D N R' Ep G s m hn hr he =>
  wpS_of (ps_set (i := i) C.nd hi hx pe_wp hs hf) (h H0 σ F H _ N Ep G.z s m (fun z nz v F' H' G' d => hn z nz _ F' H' (G.trans G') G'.f ((s.grow G').set i noOw ⟨v, rfl, d⟩)) fun c ec F' H' G' => he c ec F' H' (G.trans G'))
/-- name = [..] -/
theorem st_setLc (i : Nat) {x : Str} {pos' lpos : Pos} {scope : Scope} {own : List (Str × Nat)} {js : List Nat} {r : α → List Sl → List Sl} {ifs : List Expr} {tt : TT} {h : α → W (Option β)} (hi : IO C ρ tg iter f m) (ok : BlkOk C.X.N C.X.env.scope scope own) (hg : ∀ x, ∀ s0 Hz c cl fp, GM (C.bk scope s0 Hz c cl fp) tg (f x) js (r x)) (hj : ∀ j ∈ js, j ∈ own.map (·.2))
    (hT : ∀ s0 Hz c cl fp, PTs (C.bk scope s0 Hz c cl fp).X ifs tt) (ht : ∀ x, Tn C (r x (wipeR ρ (own.map (·.2)))) tt (wpEb C.X scope elt) fb (h x)) (hN : C.X.N[i]? = some x := by rfl) (hy : C.X.env.scope.names.lookup x = some .local)
    (hsw : swapsWith (.ListComp elt [⟨tg, iter, ifs, 0⟩] scope lpos) (some (.Name x pos')) pos.line C.X.env = pure true) (hs : ∀ x, foldedSetIterable iter C.X.env x = pure x := by intro _; rfl) :
    S1 C ρ (.Assign [.Name x pos'] (.ListComp elt [⟨tg, iter, ifs, 0⟩] scope lpos) pos) (fun z => ρ.set i (.d (lD fb z))) fr (fun N _ E => (m.bd fun xs => W.calm (W.fm xs h)) N E) := fun F0 H0 σ F H D N R' Ep G s mq hn hr he =>
  wpS_of (ps_setLc (tt := tt) (te := wpEb C.X scope elt) (g := wpGb C.X scope tg) C.calm C.nd hN hy hsw pi_wp ok (fun s0 Hz c cl fp => ⟨fun pins s σ H v u Q I r h => h s0 Hz c cl fp pins s u I r⟩) (fun s0 Hz c cl fp => hT s0 Hz c cl fp) (fun s0 Hz c cl fp => ⟨fun pins s σ H Q I h => h s0 Hz c cl fp pins s I⟩) hs)
    (lc_read (g := wpGb C.X scope tg) hi (fun x ρ H0 σ F H v Q fz s dv hq => gm_wipe (scope := scope) (hg x) hj fz s dv hq) ht G.z s mq (fun z nz v F' H' G' d => hn z nz _ F' H' (G.trans G') G'.f ((s.grow G').set i noOw ⟨v, rfl, d⟩)) fun c ec F' H' G' => he c ec F' H' (G.trans G'))
/-- target = e -/
theorem st_tgt {js : α → List Nat} {r : α → List Sl → List Sl} (h : EM C ρ e f ma) (hg : ∀ z, GM C tg (f z) (js z) (r z)) (hs : swapsWithSole [tg] e pos.line C.X.env = pure false := by rfl) (hw : swappedStores [tg] e C.X.env = pure none := by rfl) (h1 : (assignEach [tg] C.X.env).map (·.2) = [assign tg C.X.env] := by rfl) :
    S1 C ρ (.Assign [tg] e pos) (fun z => r z ρ) fr (fun N _ E => ma N E) := fun F0 H0 σ F H D N R' Ep G s m hn hr he =>
  wpS_of (ps_asg pe_wp pg_wp hs hw (h1 := h1)) (h H0 σ F H _ N Ep G.z s m (fun z nz v F' H' G' d => hg z ρ H0 σ F' H' v D.nx G'.z (s.grow G') d fun σ' s' _ => hn z nz σ' F' H' (G.trans G') G'.f s') fun c ec F' H' G' => he c ec F' H' (G.trans G'))
/-- a, b = e1, e2 of two local names -/
theorem st_par (i j : Nat) {x y : Str} {a b : Expr} {px py pt : Pos} {kt k2 : Nat} {pt2 : Pos} {fa : α → PyData} {mb : W β} (ha : EM C ρ a fa ma) (hb : EM C ρ b fb mb) (hi : C.X.N[i]? = some x := by rfl) (hj : C.X.N[j]? = some y := by rfl) (hij : i ≠ j) (hx : C.X.env.scope.names.lookup x = some .local) (hy : C.X.env.scope.names.lookup y = some .local)
    (hw : swappedStores [.Tuple [.Name x px, .Name y py] kt pt] (.Tuple [a, b] k2 pt2) C.X.env = pure (some [x, y])) (na : noStar a = true := by rfl) (nb : noStar b = true := by rfl) (hs : swapsWithSole [.Tuple [.Name x px, .Name y py] kt pt] (.Tuple [a, b] k2 pt2) pos.line C.X.env = pure false := by rfl) :
    S1 C ρ (.Assign [.Tuple [.Name x px, .Name y py] kt pt] (.Tuple [a, b] k2 pt2) pos) (fun p : α × β => (ρ.set i (.d (fa p.1))).set j (.d (fb p.2))) fr (fun N _ E => ma (fun u => mb (fun v => N (u, v)) E) E) := fun F0 H0 σ F H D N R' Ep G s m hn hr he =>
  wpS_of (ps_par (i := i) (j := j) C.calm C.nd hi hj hij hx hy (pa_cons pe_wp (pa_cons pe_wp pa_nil (star_of nb _)) (star_of na _)) hw hs)
    (ha H0 σ F H _ _ Ep G.z s m (fun u qu v F1 H1 G1 d1 => hb H0 σ F1 H1 _ _ Ep G1.z (s.grow G1) qu (fun w' qw v2 F2 H2 G2 d2 =>
      ⟨v, v2, rfl, hn (u, w') qw _ F2 H2 ((G.trans G1).trans G2) (G1.trans G2).f ((((s.grow G1).grow G2).set i noOw ⟨v, rfl, dp_mono G2.un d1⟩).set j noOw ⟨v2, rfl, d2⟩)⟩) fun c ec F' H' G' => he c ec F' H' ((G.trans G1).trans G')) fun c ec F' H' G' => he c ec F' H' (G.trans G'))
/-- name op= e, ints -/
theorem st_aug (i : Nat) {x : Str} {pos' : Pos} {op : Operator} {z0 : γ} {fg : γ → PyData} {k : γ → α → W β} {r : R2} (hr : OpR C.X (inplaceOp op) r) (ho : Opn C.X.K r fg f fb k) (h0 : ρ[i]? = some (.d (fg z0))) (h : EM C ρ e f ma) (hi : C.X.N[i]? = some x := by rfl) (hx : Loc C.X.env.scope x := by first | exact .inl rfl | exact .inr rfl) (hf : C.X.fn x = true ∨ C.X.env.scope.names.lookup x = some .local := by first | exact .inl rfl | exact .inr rfl) :
    S1 C ρ (.AugAssign (.Name x pos') op e pos) (fun z => ρ.set i (.d (fb z))) fr (fun N _ E => (ma.bd fun y => k z0 y) N E) := fun F0 H0 σ F H D N R' Ep G s m hn hr' he => by
  obtain ⟨v, h1, u, e1, d⟩ := s.at h0
  refine wpS_of (ps_aug (i := i) (ti := r) C.nd hi hx pe_wp (fun pins s σ H x y v u Q I rx ry q => hr pins s σ H x y v u Q I rx ry q) hf) ⟨u, by rw [h1, e1], ?_⟩
  exact h H0 σ F H _ _ Ep G.z s m (fun z nz v2 F' H' G' d2 => ho z0 z u v2 F' H' _ N Ep G'.z (dp_mono G'.un d) d2 nz fun z2 nz2 v3 F2 H2 G2 d3 => hn z2 nz2 _ F2 H2 ((G.trans G').trans G2) (G'.trans G2).f (((s.grow G').grow G2).set i noOw ⟨v3, rfl, d3⟩)) fun c ec F' H' G' => he c ec F' H' (G.trans G')
theorem st_ret (h : EM C ρ e fr mR) : S1 C ρ (.Return (some e) pos) (fun z : Empty => ([] : List Sl)) fr (fun _ R' E => mR R' E) := fun F0 H0 σ F H D N R' Ep G s m hn hr he =>
  wpS_of (ps_ret pe_wp) (h H0 σ F H _ R' Ep G.z s m (fun z nz v F' H' G' d => hr z nz v F' H' (G.trans G') d) fun c ec F' H' G' => he c ec F' H' (G.trans G'))
theorem st_expr (h : EM C ρ e f ma) (hs : swapsWith e none pos.line C.X.env = pure false := by rfl) : S1 C ρ (.Expr e pos) (fun _ : Unit => ρ) fr (fun N _ E => ma (fun _ => N ()) E) := fun F0 H0 σ F H D N R' Ep G s m hn hr he =>
  wpS_of (ps_expr pe_wp hs) (h H0 σ F H _ _ Ep G.z s m (fun z nz v F' H' G' d => hn () nz σ F' H' (G.trans G') G'.f (s.grow G')) fun c ec F' H' G' => he c ec F' H' (G.trans G'))
def M.ite {S R : Type} (k : Bool) (a b : M S R) : M S R := fun N R' E => if k = true then a N R' E else b N R' E
theorem st_if {m1 m2 : M S R} (hc : TM C ρ c mc) (ha : SM C ρ A g fr m1) (hb : SM C ρ B g fr m2) : S1 C ρ (.If c A B pos) g fr (fun N R' E => mc (fun k => M.ite k m1 m2 N R' E) E) := fun F0 H0 σ F H D N R' Ep G s m hn hr he =>
  wpS_of (ps_if pt_wp pb_wp pb_wp) (hc H0 σ F H _ _ Ep G.z s m (fun k qk F' H' G' => by
    cases k with
    | true =>
      rw [if_pos rfl]
      exact ha F0 H0 σ F' H' D N R' Ep (G.trans G') (s.grow G') (ite_t rfl qk) (fun s2 n2 σ2 F2 H2 G2 t2 sl2 => hn s2 n2 σ2 F2 H2 G2 (fun a o z => t2 a o (G'.f a o z)) sl2) hr he
    | false =>
      rw [if_neg Bool.false_ne_true]
      exact hb F0 H0 σ F' H' D N R' Ep (G.trans G') (s.grow G') (ite_f rfl qk) (fun s2 n2 σ2 F2 H2 G2 t2 sl2 => hn s2 n2 σ2 F2 H2 G2 (fun a o z => t2 a o (G'.f a o z)) sl2) hr he) fun c ec F' H' G' => he c ec F' H' (G.trans G'))
/-- raise X('..') -/
theorem st_raise {x msg : Str} {j : Nat} {p p2 p3 : Pos} {Ca : Addr} {bmB : List Value} {Bb newId initId : String} (Fb : ExcBaseFacts Bb newId initId bmB) (q : PySem.W.excIn C.X.K Ca bmB newId = true) (gC : C.X.mg x = some (.ref Ca)) (kC : PySem.W.keepIn C.X.K (.ref Ca) = true) (r : Raises C.X (.ref Ca)) (hg : Gl C.X x := by rfl) (hca : C.ca x = Ca) (hdb : (x == ("__debug__" : Str)) = false := by decide) :
    S1 C ρ (.Raise (some (.Call (.Name x p) [.Constant (.str msg) j p2] [] p3)) none pos) (fun z : Empty => ([] : List Sl)) fr (fun _ _ E => E x) := fun F0 H0 σ F H D N R' Ep G s m hn hr he =>
  wpS_of (L2.ps_raise C.calm C.tk (pmk_own Fb q gC kC r hg hdb)) (by
    show C.Ee (.ref Ca) none H
    rw [← hca]
    exact he x m F H G)
def M.for {α S R : Type} : List α → S → (S → α → M S R) → M S R
  | [], s, _ => fun N _ _ => N s
  | x :: xs, s, b => fun N R' E => b s x (fun s' => M.for xs s' b N R' E) R' E
/-- for tg in iter: body; the state by g -/
theorem st_for {js : α → List Nat} {r : α → List Sl → List Sl} {mb : S → α → M S R} (s0 : S) (hi : IM C ρ tg iter f m) (hw : Wk ρ (g s0)) (hg : ∀ x, GM C tg (f x) (js x) (r x)) (hb : ∀ s x, SM C (r x (g s)) B g fr (mb s x)) (hs : ∀ x, foldedSetIterable iter C.X.env x = pure x := by intro _; rfl) :
    S1 C ρ (.For tg iter B [] pos) g fr (fun N R' E => m (fun xs => M.for xs s0 mb N R' E) E) := fun F0 H0 σ F H D N R' Ep G s mq hn hr he => by
  refine wpS_of (ps_for C.po C.calm pi_wp pg_wp pb_wp (hs := hs)) (hi H0 σ F H _ _ Ep G.z s mq (fun xs qx J F1 H1 G1 w => ?_) fun c ec F' H' G' => he c ec F' H' (G.trans G'))
  have hl : (xs.map f).length = xs.length := List.length_map ..
  refine ⟨fun i n σ H => n = xs.length - i ∧ i ≤ xs.length ∧ ∃ F2 s2, Grow F0 H0 F2 H ∧ (∀ a o, F1 a = some o → F2 a = some o) ∧ Sls C.kt H0 (g s2) σ F2 H ∧ M.for (xs.drop i) s2 mb N R' Ep, ⟨xs.length, by omega, Nat.zero_le _, F1, s0, G.trans G1, fun _ _ q => q, (s.grow G1).weak hw, qx⟩, fun i n σ2 H2 ⟨en, hi2, F2, s2, G2, t2, sl2, q2⟩ => ?_⟩
  by_cases hlt : i < xs.length
  · refine .inr ⟨w.go i F2 H2 G2.z t2 (by rw [hl]; exact hlt), _, fun σ' H' (z : ∃ _ : Unit, i + 1 ≤ xs.length ∧ ∃ F2 s2, Grow F0 H0 F2 H' ∧ (∀ a o, F1 a = some o → F2 a = some o) ∧ Sls C.kt H0 (g s2) σ' F2 H' ∧ M.for (xs.drop (i + 1)) s2 mb N R' Ep) => ?_, fun x H' y => ?_⟩
    · obtain ⟨_, z⟩ := z
      exact ⟨xs.length - (i + 1), by omega, rfl, z⟩
    obtain ⟨F3, d, G3, e3, dx⟩ := w.yld i F2 H2 x H' G2.z t2 (by rw [hl]; exact hlt) y
    have ex : xs[i]? = some xs[i] := List.getElem?_eq_getElem hlt
    rw [List.getElem?_map, ex] at e3
    obtain rfl : f xs[i] = d := Option.some.inj e3
    have edrop : xs.drop i = xs[i] :: xs.drop (i + 1) := List.drop_eq_getElem_cons hlt
    rw [edrop] at q2
    refine hg xs[i] _ H0 σ2 F3 H' x _ G3.z (sl2.grow G3) dx fun σ' s4 _ => ?_
    exact hb s2 xs[i] F0 H0 σ' F3 H' _ _ R' Ep (G2.trans G3) s4 q2 (fun s' q σ' F' H' G' t' sl' => ⟨(), hlt, F', s', G', fun a o z => t' a o (G3.f a o (t2 a o z)), sl', q⟩) hr he
  · have ei : i = xs.length := by omega
    refine .inl ⟨by rw [ei, ← hl]; exact w.stop F2 H2 G2.z t2, ?_⟩
    rw [ei, List.drop_length] at q2
    exact hn s2 q2 σ2 F2 H2 G2 (fun a o z => t2 a o (G1.f a o z)) sl2
end
end Wl
namespace Wl
open PySem PySem.Spec PyProof.Rows L2
section
variable {C : Ct} {ρ : List Sl} {tg iter e c o elt : Expr} {es : List Expr} {sts rest A B : List Stmt} {st : Stmt} {α β γ δ S S' R : Type} {f : α → PyData} {fb : β → PyData} {fc : γ → PyData} {fr : R → PyData} {m : W (List α)} {ma : W α} {mb : W β} {mc : W Bool} {pos : Pos} {g : S → List Sl}
/-! ### 11. while -/
def M.while {S R : Type} (c : S → W Bool) (b : S → M S R) : Nat → S → M S R
  | 0, _ => fun _ _ _ => False
  | n + 1, s => fun N R' E => c s (fun k => if k = true then b s (fun s' => M.while c b n s' N R' E) R' E else N s) E
theorem st_while {mc : S → W Bool} {mb : S → M S R} (s0 : S) (n0 : Nat) (hw : Wk ρ (g s0)) (hc : ∀ s, TM C (g s) c (mc s)) (hb : ∀ s, SM C (g s) B g fr (mb s)) : S1 C ρ (.While c B [] pos) g fr (M.while mc mb n0 s0) := fun F0 H0 σ F H D N R' Ep G s mq hn hr he => by
  refine wpS_of (ps_while C.po pt_wp pb_wp) ⟨fun n σ H => ∃ F2 s2, Grow F0 H0 F2 H ∧ Sub F F2 ∧ Sls C.kt H0 (g s2) σ F2 H ∧ M.while mc mb n s2 N R' Ep, ⟨n0, F, s0, G, fun _ _ z => z, s.weak hw, mq⟩, fun n σ2 H2 ⟨F2, s2, G2, t2, sl2, q2⟩ => ?_⟩
  cases n with
  | zero => exact False.elim q2
  | succ n =>
    refine hc s2 H0 σ2 F2 H2 _ _ Ep G2.z sl2 q2 (fun k qk F3 H3 G3 => ?_) fun c ec F3 H3 G3 => he c ec F3 H3 (G2.trans G3)
    cases k with
    | true =>
      rw [if_pos rfl]
      have qk : mb s2 (fun s' => M.while mc mb n s' N R' Ep) R' Ep := by rwa [if_pos rfl] at qk
      refine ⟨fun σ' H' => ∃ F4 s4, Grow F0 H0 F4 H' ∧ Sub F F4 ∧ Sls C.kt H0 (g s4) σ' F4 H' ∧ M.while mc mb n s4 N R' Ep, fun σ' H' z => ⟨n, Nat.lt_succ_self n, z⟩, ?_⟩
      exact hb s2 F0 H0 σ2 F3 H3 _ _ R' Ep (G2.trans G3) (sl2.grow G3) qk (fun s' q σ' F' H' G' t' sl' => ⟨F', s', G', fun a o z => t' a o (G3.f a o (t2 a o z)), sl', q⟩) hr he
    | false =>
      rw [if_neg Bool.false_ne_true]
      have qk : N s2 := by rwa [if_neg Bool.false_ne_true] at qk
      exact hn s2 qk σ2 F3 H3 (G2.trans G3) (fun a o z => G3.f a o (t2 a o z)) (sl2.grow G3)
/-! ### 12. lists of one's own -/
theorem grow_free {F0 F : Fh} {H0 H : Hp} (G : Grow F0 H0 F H) {p : Addr} (h : H p = none) : H0 p = none := by
  cases e : H0 p with
  | none => rfl
  | some o =>
    cases e2 : F0 p with
    | none => rw [(G.k p o e2 e).1] at h; cases h
    | some q => have z := G.z.none h; rw [G.f p q e2] at z; cases z
theorem Sls.setOw {K : Ktx} {H0 : Hp} {ρ : List Sl} {σ : L2.St} {F : Fh} {H : Hp} (s : Sls K H0 ρ σ F H) (i : Nat) {xs : List PyData} {p : Addr} {vs : List V} (hF : F p = none) (h0 : H0 p = none) (hp : H p = some (.lst vs)) (hd : DpAll K.K (un F) vs xs)
    (fresh : ∀ j ys, j ≠ i → ρ[j]? = some (.ow ys) → σ[j]? ≠ some (some (.ref p))) : Sls K H0 (ρ.set i (.ow xs)) (σ.set i (some (.ref p))) F H := by
  refine ⟨by rw [List.length_set, List.length_set, s.len], fun j u w h1 h2 => ?_, s.tb, fun j k ys zs a h1 h2 h3 h4 => ?_⟩
  · by_cases e : i = j
    · subst e
      have hi : i < ρ.length := by
        have q := (List.getElem?_eq_some_iff.mp h1).1
        rwa [List.length_set] at q
      rw [List.getElem?_set_self hi] at h1
      rw [List.getElem?_set_self (by rw [← s.len]; exact hi)] at h2
      cases h1; cases h2
      exact ⟨p, vs, rfl, hF, h0, hp, hd⟩
    · rw [List.getElem?_set_ne e] at h1 h2
      exact s.ok j u w h1 h2
  · have key : ∀ j zs a, (ρ.set i (.ow xs))[j]? = some (.ow zs) → (σ.set i (some (.ref p)))[j]? = some (some (.ref a)) → i = j → a = p := fun j zs a q q2 e => by
      subst e
      have hi : i < ρ.length := by
        have q := (List.getElem?_eq_some_iff.mp q).1
        rwa [List.length_set] at q
      rw [List.getElem?_set_self (by rw [← s.len]; exact hi)] at q2
      cases q2; rfl
    by_cases e1 : i = j
    · by_cases e2 : i = k
      · rw [← e1, ← e2]
      · have ea := key j ys a h1 h2 e1
        rw [List.getElem?_set_ne e2] at h3 h4
        rw [ea] at h4
        exact absurd h4 (fresh k zs (fun z => e2 z.symm) h3)
    · by_cases e2 : i = k
      · have ea := key k zs a h3 h4 e2
        rw [List.getElem?_set_ne e1] at h1 h2
        rw [ea] at h2
        exact absurd h2 (fresh j ys (fun z => e1 z.symm) h1)
      · rw [List.getElem?_set_ne e1] at h1 h2
        rw [List.getElem?_set_ne e2] at h3 h4
        exact s.ne j k ys zs a h1 h2 h3 h4
/-- name = [e, ..], a list of one's own -/
theorem st_own (i : Nat) {x : Str} {pos' p2 : Pos} {ar : β → List Sl} (h : AM C ρ es ar mb) (k : β → List α) (hk : ∀ b, ar b = ((k b).map f).map Sl.d ∧ (k b).length ≤ 1000) (hi : C.X.N[i]? = some x := by rfl) (hx : Loc C.X.env.scope x := by first | exact .inl rfl | exact .inr rfl)
    (hs : swapsWith (.List es p2) (some (.Name x pos')) pos.line C.X.env = pure false := by rfl) (hf : C.X.fn x = true ∨ C.X.env.scope.names.lookup x = some .local := by first | exact .inl rfl | exact .inr rfl) :
    S1 C ρ (.Assign [.Name x pos'] (.List es p2) pos) (fun z : List α => ρ.set i (.ow (z.map f))) fr (fun N _ E => mb (fun b => N (k b)) E) := fun F0 H0 σ F H D N R' Ep G s m hn hr he =>
  wpS_of (ps_set (i := i) C.nd hi hx (pe_lst pa_wp) hs hf) (h.run H0 σ F H _ _ Ep G.z s m (fun b nb vs F1 H1 G1 d1 => by
    obtain ⟨e1, hl⟩ := hk b
    rw [e1] at d1
    have d2 := ars_dpa d1
    have hl2 : vs.length ≤ 1000 := by rw [dpa_len d2, List.length_map]; exact hl
    refine ⟨Nat.le_of_lt (small1000 hl2), fun p hp => ?_⟩
    have G2 := G.trans G1
    have h0 := grow_free G2 hp
    have nF := G1.z.none hp
    -- the new list is laid; F stays
    have G3 : Grow F1 H1 F1 (upd H1 p (.lst vs)) := Grow.lay G1.z hp
    have s3 := (s.grow G1).grow G3
    refine hn (k b) nb _ F1 _ (G2.trans G3) G1.f (s3.setOw i nF h0 upd_same d2 fun j ys _ h1 h2 => ?_)
    obtain ⟨v, h3, a, us, e4, _, _, h5, _⟩ := (s.grow G1).at h1
    rw [h2] at h3
    rw [← Option.some.inj h3] at e4
    cases e4
    rw [hp] at h5; cases h5) fun c ec F' H' G' => he c ec F' H' (G.trans G'))
/-- a list of one's own is handed on: nobody writes it any more -/
theorem ss_freeze (i : Nat) {xs : List α} {m1 : M S R} (h : ρ[i]? = some (.ow (xs.map f))) (hs : SM C (ρ.set i (.d (lD f xs))) sts g fr m1) : SM C ρ sts g fr m1 := fun F0 H0 σ F H D N R' Ep G s m hn hr he => by
  obtain ⟨v, h1, a, vs, e1, h2, h3, h4, h5⟩ := s.at h
  subst e1
  have G2 := G.freeze h2 h3 h4
  have sub : Sub F (updF F a (.obj (.lst vs))) := fun b o z => by
    have ne : b ≠ a := fun q => by rw [q, h2] at z; cases z
    rw [updF_ne ne]; exact z
  have s2 : Sls C.kt H0 (ρ.set i (.d (lD f xs))) σ (updF F a (.obj (.lst vs))) H := by
    refine ⟨by rw [List.length_set, s.len], fun j u w q1 q2 => ?_, fun p hp => sub _ _ (s.tb p hp), fun j k ys zs b q1 q2 q3 q4 => ?_⟩
    · by_cases e : i = j
      · subst e
        have hi : i < ρ.length := (List.getElem?_eq_some_iff.mp h).1
        rw [List.getElem?_set_self hi] at q1
        cases q1
        rw [h1] at q2
        cases q2
        exact ⟨.ref a, rfl, .lst (.inl (.inl (un_iff.mpr updF_same))) (dpa_mono (un_sub sub) h5)⟩
      · rw [List.getElem?_set_ne e] at q1
        have ok := s.ok j u w q1 q2
        cases u with
        | un => trivial
        | d x => obtain ⟨z, ez, dz⟩ := ok; exact ⟨z, ez, dp_mono (un_sub sub) dz⟩
        | dice => obtain ⟨z, ez, dz⟩ := ok; exact ⟨z, ez, sub _ _ dz⟩
        | raw φ => obtain ⟨z, ez, dz⟩ := ok; exact ⟨z, ez, fun F2 t => dz F2 fun a o z => t a o (sub a o z)⟩
        | ow ys =>
          obtain ⟨b, us, eb, k1, k2, k3, k4⟩ := ok
          have nb : b ≠ a := fun z => by
            subst z
            rw [eb] at q2
            exact e (s.ne i j _ _ b h h1 q1 q2)
          exact ⟨b, us, eb, by rw [updF_ne nb]; exact k1, k2, k3, dpa_mono (un_sub sub) k4⟩
    · have key : ∀ (j : Nat) (ys : List PyData), (ρ.set i (Sl.d (lD f xs)))[j]? = some (.ow ys) → ρ[j]? = some (.ow ys) := fun j ys q => by
        by_cases e : i = j
        · subst e
          have hi : i < ρ.length := (List.getElem?_eq_some_iff.mp h).1
          rw [List.getElem?_set_self hi] at q
          cases q
        · rwa [List.getElem?_set_ne e] at q
      exact s.ne j k ys zs b (key j ys q1) q2 (key k zs q3) q4
  exact hs F0 H0 σ _ H D N R' Ep G2 s2 m (fun s3 n3 σ' F' H' G' t' sl' => hn s3 n3 σ' F' H' G' (fun b o z => t' b o (sub b o z)) sl') hr he
/-- the slot's own list written anew -/
theorem Sls.write {K : Ktx} {H0 : Hp} {ρ : List Sl} {σ : L2.St} {F : Fh} {H : Hp} (s : Sls K H0 ρ σ F H) {i : Nat} {xs ys : List PyData} {p : Addr} {us : List V} (hi : ρ[i]? = some (.ow xs)) (hs : σ[i]? = some (some (.ref p))) (hd : DpAll K.K (un F) us ys) : Sls K H0 (ρ.set i (.ow ys)) σ F (upd H p (.lst us)) := by
  have hil : i < ρ.length := (List.getElem?_eq_some_iff.mp hi).1
  refine ⟨by rw [List.length_set, s.len], fun j u w q1 q2 => ?_, s.tb, fun j k xs' zs b q1 q2 q3 q4 => ?_⟩
  · by_cases e : i = j
    · subst e
      rw [List.getElem?_set_self hil] at q1
      cases q1
      rw [hs] at q2
      cases q2
      obtain ⟨a, vs, e1, k1, k2, k3, k4⟩ := s.ok i _ _ hi hs
      cases e1
      exact ⟨p, us, rfl, k1, k2, upd_same, hd⟩
    · rw [List.getElem?_set_ne e] at q1
      have ok := s.ok j u w q1 q2
      cases u with
      | un => trivial
      | d x => exact ok
      | dice => exact ok
      | raw φ => exact ok
      | ow zs =>
        obtain ⟨b, vs, eb, k1, k2, k3, k4⟩ := ok
        have nb : b ≠ p := fun z => by
          subst z
          rw [eb] at q2
          exact e (s.ne i j _ _ b hi hs q1 q2)
        exact ⟨b, vs, eb, k1, k2, by rw [upd_ne nb]; exact k3, k4⟩
  · have key : ∀ (j : Nat) (zs : List PyData), (ρ.set i (Sl.ow ys))[j]? = some (.ow zs) → ∃ zs', ρ[j]? = some (.ow zs') := fun j zs q => by
      by_cases e : i = j
      · subst e; exact ⟨_, hi⟩
      · rw [List.getElem?_set_ne e] at q; exact ⟨_, q⟩
    obtain ⟨_, r1⟩ := key j _ q1
    obtain ⟨_, r2⟩ := key k _ q3
    exact s.ne j k _ _ b r1 q2 r2 q4
/-- name.append(e) -/
theorem st_append (i : Nat) {x : Str} {xs : List α} {p1 ap cp : Pos} (h : EM C ρ e f ma) (h0 : ρ[i]? = some (.ow (xs.map f))) (hN : C.X.N[i]? = some x := by rfl) (hv : Vis C.X.env.scope x := by first | exact .inl rfl | exact .inr (.inl rfl) | exact .inr (.inr rfl)) (hs : noStar e = true := by rfl)
    (hb : attributeBase (.Name x p1) "append" C.X.env (eval (.Name x p1) C.X.env) = eval (.Name x p1) C.X.env := by rfl)
    (hl : (ap.endLine == cp.line) = true := by rfl) (hsw : swapsWith (.Call (.Attribute (.Name x p1) "append" ap) [e] [] cp) none pos.line C.X.env = pure false := by rfl) (hd : (x == ("__debug__" : Str)) = false := by decide) (hcd : (x == ("__classdict__" : Str)) = false := by decide) :
    S1 C ρ (.Expr (.Call (.Attribute (.Name x p1) "append" ap) [e] [] cp) pos) (fun z : List α => ρ.set i (.ow (z.map f))) fr (fun N _ E => ma (fun y => xs.length < sizeLine ∧ N (xs ++ [y])) E) := fun F0 H0 σ F H D N R' Ep G s m hn hr he => by
  obtain ⟨v, h1, a, vs, e1, h2, h3, h4, h5⟩ := s.at h0
  subst e1
  refine wpS_of (ps_expr (pe_bm PySem.F.plainAttrs_list PySem.F.slot_list_append PySem.F.type_list_append mt_append (pe_var (i := i) hN hv hd hcd) (pa_cons pe_wp pa_nil (star_of hs _)) hb (by rw [star_of hs]; rfl) hl (star_of hs _) (by rfl)) hsw) ?_
  refine ⟨.ref a, h1, .inl ⟨rfl, vs, .inl (.inl h4)⟩, h H0 σ F H _ _ Ep G.z s m (fun y ⟨ly, ny⟩ u F1 H1 G1 d1 => ?_) fun c ec F' H' G' => he c ec F' H' (G.trans G')⟩
  obtain ⟨k1, k2⟩ := G1.k a _ h2 h4
  have hl : vs.length = xs.length := by rw [dpa_len h5, List.length_map]
  refine ⟨a, vs, u, rfl, rfl, k1, by rw [hl]; exact ly, hn _ ny _ F1 _ ((G.trans G1).own k2 h3 k1) G1.f ?_⟩
  exact (s.grow G1).write h0 h1 (by rw [List.map_append]; exact dpa_app (dpa_mono G1.un h5) (.cons d1 .nil))
/-- name.insert(i, e) -/
theorem st_insert (i : Nat) {x : Str} {xs : List α} {e2 : Expr} {mi : W Int} {p1 ap cp : Pos} (hi : EM C ρ e2 iD mi) (h : EM C ρ e f ma) (h0 : ρ[i]? = some (.ow (xs.map f))) (hN : C.X.N[i]? = some x := by rfl) (hv : Vis C.X.env.scope x := by first | exact .inl rfl | exact .inr (.inl rfl) | exact .inr (.inr rfl)) (hs2 : noStar e2 = true := by rfl) (hs : noStar e = true := by rfl)
    (hb : attributeBase (.Name x p1) "insert" C.X.env (eval (.Name x p1) C.X.env) = eval (.Name x p1) C.X.env := by rfl)
    (hl : (ap.endLine == cp.line) = true := by rfl) (hsw : swapsWith (.Call (.Attribute (.Name x p1) "insert" ap) [e2, e] [] cp) none pos.line C.X.env = pure false := by rfl) (hd : (x == ("__debug__" : Str)) = false := by decide) (hcd : (x == ("__classdict__" : Str)) = false := by decide) :
    S1 C ρ (.Expr (.Call (.Attribute (.Name x p1) "insert" ap) [e2, e] [] cp) pos) (fun z : List α => ρ.set i (.ow (z.map f))) fr (fun N _ E => mi (fun n => ma (fun y => (0 ≤ n ∧ n < 2 ^ 63 ∧ xs.length < sizeLine) ∧ N (xs.take n.toNat ++ [y] ++ xs.drop n.toNat)) E) E) := fun F0 H0 σ F H D N R' Ep G s m hn hr he => by
  obtain ⟨v, h1, a, vs, e1, h2, h3, h4, h5⟩ := s.at h0
  subst e1
  refine wpS_of (ps_expr (pe_bm PySem.F.plainAttrs_list PySem.F.slot_list_insert PySem.F.type_list_insert mt_insert (pe_var (i := i) hN hv hd hcd) (pa_cons pe_wp (pa_cons pe_wp pa_nil (star_of hs _)) (star_of hs2 _)) hb (by rw [star_of hs2, star_of hs]; rfl) hl (star_of hs2 _) (by rw [star_of hs]; rfl)) hsw) ?_
  refine ⟨.ref a, h1, .inl ⟨rfl, vs, .inl (.inl h4)⟩, hi H0 σ F H _ _ Ep G.z s m (fun n qn w F1 H1 G1 d1 => h H0 σ F1 H1 _ _ Ep G1.z (s.grow G1) qn (fun y ⟨⟨n0, n1, ly⟩, ny⟩ u F2 H2 G2 d2 => ?_) fun c ec F' H' G' => he c ec F' H' ((G.trans G1).trans G')) fun c ec F' H' G' => he c ec F' H' (G.trans G')⟩
  have G12 := G1.trans G2
  obtain ⟨k1, k2⟩ := G12.k a _ h2 h4
  have hl : vs.length = xs.length := by rw [dpa_len h5, List.length_map]
  refine ⟨a, vs, n, u, rfl, by rw [dp_int d1], k1, by rw [hl]; exact ly, n0, n1, hn _ ny _ F2 _ ((G.trans G12).own k2 h3 k1) G12.f ?_⟩
  refine (s.grow G12).write h0 h1 ?_
  have h6 := dpa_mono G12.un h5
  rw [List.map_append, List.map_append, List.map_take, List.map_drop]
  exact dpa_app (dpa_app (dpa_take _ h6) (.cons d2 .nil)) (dpa_drop _ h6)
/-! ### 13. methods of texts and of lists, by values -/
theorem em_bm {T id : String} {name : Str} {ap cp : Pos} {r : V → List V → Hp → VK → Prop} {ar : β → List Sl} {k : α → β → W γ} (pa : PlainAttrs T) (slot : Slot T name id) (hty : typeOf (.builtin id) = pure (.type "method_descriptor")) (hm : MtR C.X id r) (ho : EM C ρ o f ma) (ha : AM C ρ (e :: es) ar mb)
    (hT : ∀ x v F H, Fz F H → Dp C.X.K (un F) v (f x) → tyV C.X.K T v H)
    (hr : ∀ x b v vs F H (Q : VK) (Qp : γ → Prop) (Ep : Str → Prop), Fz F H → Dp C.X.K (un F) v (f x) → ArsOk C.X.K F (ar b) vs → k x b Qp Ep → (∀ z, Qp z → ∀ v F' H', Grow F H F' H' → Dp C.X.K (un F') v (fc z) → Q v H') → r v vs H Q)
    (hbase : attributeBase o name C.X.env (eval o C.X.env) = eval o C.X.env := by rfl)
    (hfew : ((backTo cp (starEach (e :: es) C.X.env)).all (fun x => !x.1) && (backToKw cp (keywordEach [] C.X.env)).all (fun x => x.1.isSome)
      && decide ((e :: es).length + ([] : List Keyword).length + (if ([] : List Keyword).isEmpty then 0 else 1) < 30)) = true := by rfl)
    (hline : (ap.endLine == cp.line) = true := by rfl) :
    EM C ρ (.Call (.Attribute o name ap) (e :: es) [] cp) fc (ma.bd fun x => mb.bd fun b => k x b) := fun H0 σ F H Q Qp Ep fz s m hq he =>
  wpE_of (pe_bm pa slot hty hm pe_wp pa_wp hbase hfew hline (star_of (all_head ha.st).1 _) (back_of (all_head ha.st).2 _ _))
    (ho H0 σ F H _ _ Ep fz s m (fun x qx v F1 H1 G1 d1 => ⟨hT x v F1 H1 G1.z d1, ha.run H0 σ F1 H1 _ _ Ep G1.z (s.grow G1) qx (fun b qb vs F2 H2 G2 d2 =>
      hr x b v vs F2 H2 Q Qp Ep G2.z (dp_mono G2.un d1) d2 qb fun z qz w F3 H3 G3 d3 => hq z qz w F3 H3 ((G1.trans G2).trans G3) d3) fun c ec F2 H2 G2 => he c ec F2 H2 (G1.trans G2)⟩) he)
/-! slices -/
def wpO (X : Cx) : Option Expr → TO
  | none => tNoPart
  | some e => tPart (wpE X e)
theorem po_wp {X : Cx} : ∀ {e : Option Expr}, PO X e (wpO X e)
  | none => po_none
  | some e => po_some pe_wp
def OM (C : Ct) (ρ : List Sl) (e : Option Expr) (m : W (Option Int)) : Prop :=
  ∀ (H0 : Hp) (σ : L2.St) (F : Fh) (H : Hp) (Q : Option Int → Hp → Prop) (Qp : Option Int → Prop) (Ep : Str → Prop), Fz F H → Sls C.kt H0 ρ σ F H → m Qp Ep → (∀ x, Qp x → ∀ F' H', Grow F H F' H' → Q x H') →
    (∀ c, Ep c → ∀ F' H', Grow F H F' H' → C.Ee (.ref (C.ca c)) none H') → wpO C.X e σ H Q
theorem om_none : OM C ρ none (.ret none) := fun H0 σ F H Q Qp Ep fz s m hq he => hq none m F H (Grow.refl fz)
theorem om_some {m : W Int} (h : EM C ρ e iD m) : OM C ρ (some e) (m.bd fun i => .ret (some i)) := fun H0 σ F H Q Qp Ep fz s m hq he =>
  h H0 σ F H _ _ Ep fz s m (fun i qi v F1 H1 G1 d1 => ⟨i, dp_int d1, hq (some i) qi F1 H1 G1⟩) he
theorem em_slice {lo hi : Option Expr} {p2 : Pos} {r : V → Option Int → Option Int → Hp → VK → Prop} {k : α → Option Int → Option Int → W γ} {ml mh : W (Option Int)} (hr : SlR C.X r) (h : EM C ρ e f ma) (hl : OM C ρ lo ml) (hh : OM C ρ hi mh)
    (ho : ∀ x l u v F H (Q : VK) (Qp : γ → Prop) (Ep : Str → Prop), Fz F H → Dp C.X.K (un F) v (f x) → k x l u Qp Ep → (∀ z, Qp z → ∀ v F' H', Grow F H F' H' → Dp C.X.K (un F') v (fc z) → Q v H') → r v l u H Q) :
    EM C ρ (.Subscript e (.Slice lo hi none p2) pos) fc (ma.bd fun x => ml.bd fun l => mh.bd fun u => k x l u) := fun H0 σ F H Q Qp Ep fz s m hq he =>
  wpE_of (pe_slice hr pe_wp po_wp po_wp) (h H0 σ F H _ _ Ep fz s m (fun x qx v F1 H1 G1 d1 => hl H0 σ F1 H1 _ _ Ep G1.z (s.grow G1) qx (fun l ql F2 H2 G2 => hh H0 σ F2 H2 _ _ Ep G2.z ((s.grow G1).grow G2) ql (fun u qu F3 H3 G3 =>
    ho x l u v F3 H3 Q Qp Ep G3.z (dp_mono (G2.trans G3).un d1) qu fun z qz w F4 H4 G4 d4 => hq z qz w F4 H4 (((G1.trans G2).trans G3).trans G4) d4) fun c ec F' H' G' => he c ec F' H' ((G1.trans G2).trans G')) fun c ec F' H' G' => he c ec F' H' (G1.trans G')) he)
/-! ### 14. a def by its body -/
def ctD {P : Program} {w : World} {K : PySem.W.Frag} {mg : Str → Option Value} {base : Heap} (ca : Str → Addr) (T : List (Addr × FO)) {N ps : List Str} {scope : Scope} (qual : Str) (S : FnScope N ps scope) (f : Addr) (cdv : Value) (A : Around) (outer : List Env) (s : Shared) (H : Hp) (E : XK) {k : Nat} (hr : Room k (A.deeper (envOfC qual scope s.heap.objs.size f cdv))) : Ct where
  X := cxOf (L2.CX P w) P w K mg base N qual scope f cdv A outer s H E
  T := T
  k := k
  ca := ca
  Ee := E
  calm := rfl
  room := hr
  pass := passes_call (takes_of rfl rfl rfl rfl) fun _ _ _ _ h => h
  tk := takes_of rfl rfl rfl rfl
  nd := S.nd
  po := passes_of rfl
theorem sls_start {K : PySem.W.Frag} {T : List (Addr × FO)} {F : Fh} {H H0 : Hp} {ar : List Sl} {vs : List V} (tb : ∀ p ∈ T, F p.1 = some p.2) (h : ArsOk K F ar vs) (n : Nat) : Sls ⟨K, T⟩ H0 (ar ++ List.replicate (n - vs.length) .un) (vs.map some ++ List.replicate (n - vs.length) none) F H := by
  have hl : ar.length = vs.length := Paired.length h
  have get : ∀ (i : Nat) (s : Sl), (ar ++ List.replicate (n - vs.length) Sl.un)[i]? = some s → s = .un ∨ ∃ v, vs[i]? = some v ∧ ArOk K F s v := fun i s e => by
    by_cases hi : i < ar.length
    · rw [List.getElem?_append_left hi] at e
      refine .inr ?_
      have : ∀ {ar : List Sl} {vs : List V} {i : Nat}, ArsOk K F ar vs → ar[i]? = some s → ∃ v, vs[i]? = some v ∧ ArOk K F s v := by
        intro ar vs i h
        induction h generalizing i with
        | nil => intro e; cases e
        | cons a r ih =>
          cases i with
          | zero => intro e; cases e; exact ⟨_, rfl, a⟩
          | succ i => intro e; exact ih e
      exact this h e
    · rw [List.getElem?_append_right (by omega)] at e
      have := List.mem_of_getElem? e
      exact .inl (List.eq_of_mem_replicate this)
  refine ⟨by rw [List.length_append, List.length_append, List.length_replicate, List.length_replicate, List.length_map, hl], fun i s v h1 h2 => ?_, tb, fun i j xs ys a h1 h2 h3 h4 => ?_⟩
  · rcases get i s h1 with e | ⟨u, e1, e2⟩
    · subst e; trivial
    · have hi : i < (vs.map some).length := by rw [List.length_map]; exact (List.getElem?_eq_some_iff.mp e1).1
      rw [List.getElem?_append_left hi, List.getElem?_map, e1] at h2
      cases h2
      cases s with
      | un => trivial
      | d x => exact ⟨u, rfl, e2⟩
      | dice => obtain ⟨a, rfl, q⟩ := e2; exact ⟨a, rfl, q⟩
      | raw φ => exact e2.elim
      | ow xs => exact e2.elim
  · rcases get i _ h1 with e | ⟨u, e1, e2⟩
    · cases e
    · exact e2.elim
section
variable {P : Program} {w : World} {K : PySem.W.Frag} {mg : Str → Option Value} {base : Heap} {ca : Str → Addr} {T : List (Addr × FO)}
theorem fn_mk {x qual : Str} {params : Arguments} {body : List Stmt} {scope : Scope} {dvs : List V} {kws : List (Str × V)} {fa : Addr} {fd : FuncData} {N ps : List Str} {k : Nat} (Z : Sg) {mb : Z.A → M S Z.R} {g : S → List Sl} (F : FunD K x qual params body scope dvs kws fa fd) (Sc : FnScope N ps scope) (hl : ∀ a, (Z.ar a).length = ps.length)
    (hm : ∀ a Q E, Z.m a Q E → mb a (fun _ => False) Q E)
    (hb : ∀ (cdv : Value) (A : Around) (outer : List Env) (s : Shared) (H : Hp) (E : XK) (hr : Room k (A.deeper (envOfC qual scope s.heap.objs.size fa cdv))) (z : Z.A),
      SM (ctD (P := P) (w := w) (K := K) (mg := mg) (base := base) ca T qual Sc fa cdv A outer s H E hr) (Z.ar z ++ List.replicate (N.length - ps.length) .un) body g Z.fr (mb z)) : FnOk P w K mg base (L2.CX P w) (k + 1) fa fd ps (Z.sp K ca T) := by
  refine F.ok Sc (fun vs H Q E h => ?_) (fun cdv A outer s H vs Q E hr h => ⟨_, pb_wp, ?_⟩)
  · obtain ⟨F, z, _, _, _, _, h2, _⟩ := h
    rw [← Paired.length h2]; exact hl z
  · obtain ⟨F, z, Qp, Ep, fz, tb, h2, h3, h4, h5⟩ := h
    have hv : vs.length = ps.length := by rw [← Paired.length h2]; exact hl z
    have st := sls_start (H := H) (H0 := H) tb h2 N.length
    rw [hv] at st
    exact hb cdv A outer s H E hr z F H (start N vs) F H _ (fun _ => False) Qp Ep (Grow.refl fz) (by unfold L2.start; rw [hv]; exact st) (hm z _ _ h3) (fun _ z => z.elim) (fun r qr v F' H' G d => h4 r qr v F' H' G d) fun c ec F' H' G => h5 c ec F' H' G
/-- a def that ends without a return -/
theorem fn_mkN {x qual : Str} {params : Arguments} {body : List Stmt} {scope : Scope} {dvs : List V} {kws : List (Str × V)} {fa : Addr} {fd : FuncData} {N ps : List Str} {k : Nat} {A' : Type} {ar : A' → List Sl} {m' : A' → W Unit} {mb : A' → M S Unit} {g : S → List Sl} (F : FunD K x qual params body scope dvs kws fa fd) (Sc : FnScope N ps scope) (hl : ∀ a, (ar a).length = ps.length)
    (hm : ∀ a Q E, m' a Q E → mb a (fun _ => Q ()) Q E)
    (hb : ∀ (cdv : Value) (A : Around) (outer : List Env) (s : Shared) (H : Hp) (E : XK) (hr : Room k (A.deeper (envOfC qual scope s.heap.objs.size fa cdv))) (z : A'),
      SM (ctD (P := P) (w := w) (K := K) (mg := mg) (base := base) ca T qual Sc fa cdv A outer s H E hr) (ar z ++ List.replicate (N.length - ps.length) .un) body g nD (mb z)) : FnOk P w K mg base (L2.CX P w) (k + 1) fa fd ps (Sg.sp (Sg.mk (A := A') (R := Unit) ar nD m') K ca T) := by
  refine F.ok Sc (fun vs H Q E h => ?_) (fun cdv A outer s H vs Q E hr h => ⟨_, pb_wp, ?_⟩)
  · obtain ⟨F, z, _, _, _, _, h2, _⟩ := h
    rw [← Paired.length h2]; exact hl z
  · obtain ⟨F, z, Qp, Ep, fz, tb, h2, h3, h4, h5⟩ := h
    have hv : vs.length = ps.length := by rw [← Paired.length h2]; exact hl z
    have st := sls_start (H := H) (H0 := H) tb h2 N.length
    rw [hv] at st
    exact hb cdv A outer s H E hr z F H (start N vs) F H _ (fun _ => Qp ()) Qp Ep (Grow.refl fz) (by unfold L2.start; rw [hv]; exact st) (hm z _ _ h3) (fun _ z _ F' H' G _ _ => h4 () z .non F' H' G .non) (fun r qr v F' H' G d => h4 r qr v F' H' G d) fun c ec F' H' G => h5 c ec F' H' G
theorem cal_mk {x : Str} {fa : Addr} {fd : FuncData} {ps : List Str} {k : Nat} {Z : Sg} (h : FnOk P w K mg base (L2.CX P w) k fa fd ps (Z.sp K ca T)) (hm : mg x = some (.ref fa)) (hk : PySem.W.keepIn K (.ref fa) = true) (hb : Binds K fd ps []) : Cal P w K mg base ca T k x Z [] :=
  ⟨fa, fd, ps, [], [], h, hm, hk, hb, .nil, fun _ => .nil⟩
theorem cal_mkD {x : Str} {fa : Addr} {fd : FuncData} {ps : List Str} {k : Nat} {Z : Sg} {dvs : List V} {ds : List Value} {dd : List Sl} (h : FnOk P w K mg base (L2.CX P w) k fa fd ps (Z.sp K ca T)) (hm : mg x = some (.ref fa)) (hk : PySem.W.keepIn K (.ref fa) = true) (hb : Binds K fd ps ds) (hd : Vals dvs ds) (hdd : ∀ F, ArsOk K F dd dvs) : Cal P w K mg base ca T k x Z dd :=
  ⟨fa, fd, ps, dvs, ds, h, hm, hk, hb, hd, hdd⟩
end
end
end Wl
namespace Wl
open PySem PySem.Spec PyProof.Rows L2
section
variable {K : PySem.W.Frag} {X : Cx} {α β γ : Type} {f : α → PyData} {g : β → PyData}
/-! ### 15. ints -/
theorem o_II {k : Int → Int → Int} : Opn K (rI0 fun i j => .int (k i j)) iD iD iD (fun x y => .ret (k x y)) := Opn.of fun x y vx vy F H Q Qp Ep hu dx dy m hq => ⟨x, y, dp_int dx, dp_int dy, hq _ m _ fun U => .int _⟩
theorem o_IB {k : Int → Int → Bool} : Opn K (rI0 fun i j => .bl (k i j)) iD iD bD (fun x y => .ret (k x y)) := Opn.of fun x y vx vy F H Q Qp Ep hu dx dy m hq => ⟨x, y, dp_int dx, dp_int dy, hq _ m _ fun U => .bl _⟩
theorem o_IIC {Cn : Int → Int → Prop} {k : Int → Int → Int} : Opn K (rI Cn fun i j => .int (k i j)) iD iD iD (fun x y => .need (Cn x y) (.ret (k x y))) := Opn.of fun x y vx vy F H Q Qp Ep hu dx dy m hq => ⟨x, y, dp_int dx, dp_int dy, m.1, hq _ m.2 _ fun U => .int _⟩
abbrev addI : Int → Int → W Int := fun x y => .ret (x + y)
abbrev subI : Int → Int → W Int := fun x y => .ret (x - y)
/-- a product's size: the model's own bound -/
def MulOk (i j : Int) : Prop := IntMulOk i j
def DivOk (_ j : Int) : Prop := j ≠ 0 ∧ j.natAbs.log2 < 9000
def ModOk (_ j : Int) : Prop := j ≠ 0
abbrev mulI : Int → Int → W Int := fun x y => .need (MulOk x y) (.ret (x * y))
abbrev fdivI : Int → Int → W Int := fun x y => .need (DivOk x y) (.ret (x.fdiv y))
abbrev fmodI : Int → Int → W Int := fun x y => .need (ModOk x y) (.ret (x.fmod y))
abbrev powI : Int → Int → W Int := fun x y => .need (CPow x y) (.ret (x ^ y.toNat))
theorem op_mulX : OpR X (binaryOp .Mult) (rI MulOk fun i j => .int (i * j)) := opI fun _ _ _ _ _ _ _ hc q => mul_int q hc
theorem iop_mulX : OpR X (inplaceOp .Mult) (rI MulOk fun i j => .int (i * j)) := opI fun _ _ _ _ _ _ _ hc q => imul_int q hc
theorem op_fdivX : OpR X (binaryOp .FloorDiv) (rI DivOk fun i j => .int (i.fdiv j)) := opI fun i j _ _ _ _ _ hc q => floordiv_int hc.1 q (.inl (PyProof.noPylong_of_log2 hc.2))
theorem op_modX : OpR X (binaryOp .Mod) (rI ModOk fun i j => .int (i.fmod j)) := opI fun _ _ _ _ _ _ _ hc q => mod_int' hc q
/-! ### 16. equality of data -/
structure Eqf [DecidableEq α] (f : α → PyData) (n : Nat) : Prop where
  eq : ∀ x y, PyData.eqv (f x) (f y) = decide (x = y)
  can : ∀ x, (f x).canLay0 = true
  dep : ∀ x, (f x).depth ≤ n
theorem Eqf.sh [DecidableEq α] {n : Nat} (h : Eqf f n) (hn : n ≤ 64) (x : α) : SeqAt.shaped (f x) = true := by
  unfold SeqAt.shaped
  rw [h.can x, Bool.true_and]
  exact decide_eq_true (Nat.le_trans (h.dep x) hn)
theorem dec_iff {p q : Prop} [Decidable p] [Decidable q] (h : p ↔ q) : decide p = decide q := by
  by_cases hp : p
  · rw [decide_eq_true hp, decide_eq_true (h.mp hp)]
  · rw [decide_eq_false hp, decide_eq_false (fun z => hp (h.mpr z))]
theorem dec_and {p q : Prop} [Decidable p] [Decidable q] : (decide p && decide q) = decide (p ∧ q) := by
  by_cases hp : p <;> by_cases hq : q <;> simp [hp, hq]
theorem eqf_int : Eqf iD 0 := ⟨fun x y => by
  show (x == y) = decide (x = y)
  by_cases e : x = y
  · subst e; simp
  · rw [decide_eq_false e]; exact beq_eq_false_iff_ne.mpr e, fun _ => rfl, fun _ => Nat.le_refl _⟩
theorem eqf_bl : Eqf bD 0 := ⟨fun x y => by cases x <;> cases y <;> rfl, fun _ => rfl, fun _ => Nat.le_refl _⟩
theorem eqf_non : Eqf nD 0 := ⟨fun x y => rfl, fun _ => rfl, fun _ => Nat.le_refl _⟩
theorem eqf_t2 [DecidableEq α] [DecidableEq β] {n k : Nat} (hf : Eqf f n) (hg : Eqf g k) : Eqf (t2 f g) (max n k + 1) := ⟨fun ⟨a, b⟩ ⟨c, d⟩ => by
  show (PyData.eqv (f a) (f c) && (PyData.eqv (g b) (g d) && true)) = _
  rw [hf.eq, hg.eq, Bool.and_true, dec_and]
  exact dec_iff (by rw [Prod.mk.injEq]), fun ⟨a, b⟩ => by
  show ((f a).canLay0 && ((g b).canLay0 && true)) = true
  rw [hf.can, hg.can]; rfl, fun ⟨a, b⟩ => by
  show max (f a).depth (max (g b).depth 0) + 1 ≤ _
  have h1 := hf.dep a
  have h2 := hg.dep b
  omega⟩
theorem eqv_all [DecidableEq α] {n : Nat} (hf : Eqf f n) : ∀ xs ys : List α, PyData.eqvAll (xs.map f) (ys.map f) = decide (xs = ys)
  | [], [] => rfl
  | [], _ :: _ => rfl
  | _ :: _, [] => rfl
  | x :: xs, y :: ys => by
    show (PyData.eqv (f x) (f y) && PyData.eqvAll (xs.map f) (ys.map f)) = _
    rw [hf.eq, eqv_all hf xs ys, dec_and]
    exact dec_iff (by rw [List.cons.injEq])
theorem can_all [DecidableEq α] {n : Nat} (hf : Eqf f n) : ∀ xs : List α, PyData.canLayAll0 (xs.map f) = true
  | [] => rfl
  | x :: xs => by
    show ((f x).canLay0 && PyData.canLayAll0 (xs.map f)) = true
    rw [hf.can, can_all hf xs]; rfl
theorem dep_all [DecidableEq α] {n : Nat} (hf : Eqf f n) : ∀ xs : List α, PyData.depthAll (xs.map f) ≤ n
  | [] => Nat.zero_le _
  | x :: xs => by
    show max (f x).depth (PyData.depthAll (xs.map f)) ≤ n
    have h1 := hf.dep x
    have h2 := dep_all hf xs
    omega
theorem eqf_l [DecidableEq α] {n : Nat} (hf : Eqf f n) : Eqf (lD f) (n + 1) := ⟨fun x y => eqv_all hf x y, fun x => can_all hf x, fun x => Nat.succ_le_succ (dep_all hf x)⟩
theorem eqf_t [DecidableEq α] {n : Nat} (hf : Eqf f n) : Eqf (tD f) (n + 1) := ⟨fun x y => eqv_all hf x y, fun x => can_all hf x, fun x => Nat.succ_le_succ (dep_all hf x)⟩
/-- what is told: a value, or the error's name -/
def eD (c : Str) (f : α → PyData) : Option α → PyData := fun z => match z with
  | some x => f x
  | none => .str c
theorem eqf_e [DecidableEq α] {n : Nat} (c : Str) (hc : PyData.strOk c = true) (hf : Eqf f n) (h1 : ∀ x, PyData.eqv (.str c) (f x) = false) (h2 : ∀ x, PyData.eqv (f x) (.str c) = false) : Eqf (eD c f) n := ⟨fun x y => by
  cases x with
  | none =>
    cases y with
    | none =>
      show (c == c) = decide ((none : Option α) = none)
      simp
    | some y =>
      show PyData.eqv (.str c) (f y) = _
      rw [h1]; simp
  | some x =>
    cases y with
    | none =>
      show PyData.eqv (f x) (.str c) = _
      rw [h2]; simp
    | some y =>
      show PyData.eqv (f x) (f y) = _
      rw [hf.eq]
      exact dec_iff (by simp), fun x => by
  cases x with
  | none => exact hc
  | some x => exact hf.can x, fun x => by
  cases x with
  | none => exact Nat.zero_le _
  | some x => exact hf.dep x⟩
abbrev eqW [DecidableEq α] : α → α → W Bool := fun x y => .ret (decide (x = y))
abbrev neW [DecidableEq α] : α → α → W Bool := fun x y => .ret (!decide (x = y))
theorem o_eq [DecidableEq α] {n : Nat} (h : Eqf f n) (hn : n ≤ 64 := by decide) : Opn K (rEqD K) f f bD eqW := Opn.of fun x y vx vy F H Q Qp Ep hu dx dy m hq =>
  ⟨f x, f y, dp_mono hu dx, dp_mono hu dy, h.sh hn x, h.sh hn y, hq _ m _ fun U => by rw [h.eq]; exact .bl _⟩
theorem o_ne [DecidableEq α] {n : Nat} (h : Eqf f n) (hn : n ≤ 64 := by decide) : Opn K (rNeD K) f f bD neW := Opn.of fun x y vx vy F H Q Qp Ep hu dx dy m hq =>
  ⟨f x, f y, dp_mono hu dx, dp_mono hu dy, h.sh hn x, h.sh hn y, hq _ m _ fun U => by rw [h.eq]; exact .bl _⟩
theorem o_eqS : Opn K rEq sD sD bD eqW := Opn.of fun x y vx vy F H Q Qp Ep hu dx dy m hq => by
  rw [dp_str dx, dp_str dy]
  exact ⟨rfl, hq _ m _ fun U => by
    have e : decide (V.str x = V.str y) = decide (x = y) := dec_iff (by simp)
    rw [e]; exact .bl _⟩
theorem o_neS : Opn K rNe sD sD bD neW := Opn.of fun x y vx vy F H Q Qp Ep hu dx dy m hq => by
  rw [dp_str dx, dp_str dy]
  exact ⟨rfl, hq _ m _ fun U => by
    have e : decide (V.str x = V.str y) = decide (x = y) := dec_iff (by simp)
    rw [e]; exact .bl _⟩
/-- .. of what may be told and a text: the texts alone are looked at -/
theorem hu_ct (C : Ct) : C.X.A.units + 64 < cLine := by
  have := C.room.un
  omega
/-! ### 17. items -/
theorem atI_map {xs : List PyData} {vs : List V} {H : Hp} (h : DpAll K H vs xs) {i : Int} {d : PyData} (e : atI xs i = some d) : ∃ v, atI vs i = some v ∧ Dp K H v d := by
  unfold atI at e ⊢
  have hl : vs.length = xs.length := dpa_len h
  rw [hl]
  cases q : ixN xs.length i with
  | none => rw [q] at e; cases e
  | some j =>
    rw [q] at e
    exact dpa_get h e
theorem atI_f {xs : List α} {i : Int} {x : α} (e : atI xs i = some x) : atI (xs.map f) i = some (f x) := by
  unfold atI at e ⊢
  rw [List.length_map]
  cases q : ixN xs.length i with
  | none => rw [q] at e; cases e
  | some j =>
    rw [q] at e
    show (xs.map f)[j]? = _
    rw [List.getElem?_map, show xs[j]? = some x from e]
    rfl
/-- the item there: it has to be there -/
def ixW (xs : List α) (i : Int) : W α := fun Q _ => ∃ x, atI xs i = some x ∧ Q x
theorem o_ixL : Opn K (rIxL K) (lD f) iD f ixW := fun x y vx vy F H Q Qp Ep fz dx dy m hq => by
  obtain ⟨a, vs, rfl, h1, h2⟩ := dp_lst dx
  obtain ⟨z, e, q⟩ := m
  obtain ⟨v, e2, d2⟩ := atI_map h2 (atI_f e)
  exact ⟨a, vs, y, v, rfl, dp_int dy, sql_mono fz.un h1, e2, hq z q v F H (Grow.refl fz) d2⟩
theorem o_ixT : Opn K (rIxT K) (tD f) iD f ixW := fun x y vx vy F H Q Qp Ep fz dx dy m hq => by
  obtain ⟨a, vs, rfl, h1, h2⟩ := dp_tup dx
  obtain ⟨z, e, q⟩ := m
  obtain ⟨v, e2, d2⟩ := atI_map h2 (atI_f e)
  exact ⟨a, vs, y, v, rfl, dp_int dy, sqt_mono fz.un h1, e2, hq z q v F H (Grow.refl fz) d2⟩
/-- a tuple of known places, at a written one -/
def TupAt (fa : α → PyData) (i : Int) (k : α → β) (fb : β → PyData) : Prop := ∀ x, ∃ ds, fa x = .tuple ds ∧ atI ds i = some (fb (k x))
theorem ta_20 : TupAt (t2 f g) 0 Prod.fst f := fun x => ⟨_, rfl, rfl⟩
theorem ta_21 : TupAt (t2 f g) 1 Prod.snd g := fun x => ⟨_, rfl, rfl⟩
theorem ta_30 {h : γ → PyData} : TupAt (t3 f g h) 0 (fun p => p.1) f := fun x => ⟨_, rfl, rfl⟩
theorem ta_31 {h : γ → PyData} : TupAt (t3 f g h) 1 (fun p => p.2.1) g := fun x => ⟨_, rfl, rfl⟩
theorem ta_32 {h : γ → PyData} : TupAt (t3 f g h) 2 (fun p => p.2.2) h := fun x => ⟨_, rfl, rfl⟩
theorem em_at {C : Ct} {ρ : List Sl} {e : Expr} {i : Int} {j : Nat} {p2 pos : Pos} {ma : W α} {k : α → β} (ht : TupAt f i k g) (h : EM C ρ e f ma) : EM C ρ (.Subscript e (.Constant (.int i) j p2) pos) g (ma.bd fun x => .ret (k x)) := fun H0 σ F H Q Qp Ep fz s m hq he =>
  wpE_of (pe_ix ix_tup pe_wp pe_int (fun _ _ => rfl)) (h H0 σ F H _ _ Ep fz s m (fun x qx v F1 H1 G1 d1 => by
    obtain ⟨ds, e1, e2⟩ := ht x
    rw [e1] at d1
    obtain ⟨a, vs, rfl, h1, h2⟩ := dp_tup d1
    obtain ⟨v, e3, d3⟩ := atI_map h2 e2
    exact ⟨a, vs, i, v, rfl, rfl, sqt_un G1.z h1, e3, hq (k x) qx v F1 H1 G1 d3⟩) he)
/-- a sign of a text -/
def ixSW (z : Str) (i : Int) : W Str := fun Q _ => z.length ≤ sizeLine ∧ ∃ c, atI z.cps.toList i = some c ∧ Q ⟨#[c]⟩
theorem o_ixS : Opn K rIxS sD iD sD ixSW := Opn.of fun x y vx vy F H Q Qp Ep hu dx dy m hq => by
  obtain ⟨hz, c, e, q⟩ := m
  exact ⟨x, y, c, dp_str dx, dp_int dy, hz, e, hq _ q _ fun U => .str _⟩
/-! ### 18. built-ins -/
theorem ars1 {F : Fh} {d : PyData} {vs : List V} (h : ArsOk K F [.d d] vs) : ∃ v, vs = [v] ∧ Dp K (un F) v d := by
  cases h with
  | cons a r => cases r; exact ⟨_, rfl, a⟩
theorem ars2 {F : Fh} {d e : PyData} {vs : List V} (h : ArsOk K F [.d d, .d e] vs) : ∃ v u, vs = [v, u] ∧ Dp K (un F) v d ∧ Dp K (un F) u e := by
  cases h with
  | cons a r =>
    cases r with
    | cons b r2 => cases r2; exact ⟨_, _, rfl, a, b⟩
/-- one argument, two -/
abbrev ar1 (f : α → PyData) : α × Unit → List Sl := fun p => [.d (f p.1)]
abbrev ar2 (f : α → PyData) (g : β → PyData) : α × β × Unit → List Sl := fun p => [.d (f p.1), .d (g p.2.1)]
theorem c_abs : Can K (fun xs H Q => ∃ i, xs = [.int i] ∧ Q (.int (if i < 0 then -i else i)) H) (ar1 iD) iD (fun p => .ret (if p.1 < 0 then -p.1 else p.1)) := fun x vs F H Q Qp Ep fz d m hq => by
  obtain ⟨v, rfl, d1⟩ := ars1 d
  rw [dp_int d1]
  exact ⟨_, rfl, hq _ m _ F H (Grow.refl fz) (.int _)⟩
theorem c_max2 : Can K (fun xs H Q => ∃ i j, xs = [.int i, .int j] ∧ Q (.int (if j > i then j else i)) H) (ar2 iD iD) iD (fun p => .ret (if p.2.1 > p.1 then p.2.1 else p.1)) := fun x vs F H Q Qp Ep fz d m hq => by
  obtain ⟨v, u, rfl, d1, d2⟩ := ars2 d
  rw [dp_int d1, dp_int d2]
  exact ⟨_, _, rfl, hq _ m _ F H (Grow.refl fz) (.int _)⟩
theorem c_min2 : Can K (fun xs H Q => ∃ i j, xs = [.int i, .int j] ∧ Q (.int (if j < i then j else i)) H) (ar2 iD iD) iD (fun p => .ret (if p.2.1 < p.1 then p.2.1 else p.1)) := fun x vs F H Q Qp Ep fz d m hq => by
  obtain ⟨v, u, rfl, d1, d2⟩ := ars2 d
  rw [dp_int d1, dp_int d2]
  exact ⟨_, _, rfl, hq _ m _ F H (Grow.refl fz) (.int _)⟩
abbrev rInt1 : List V → Hp → VK → Prop := fun xs H Q => (∃ i, xs = [.int i] ∧ Q (.int i) H) ∨ ∃ k, xs = [.bl k] ∧ Q (.int (if k then 1 else 0)) H
theorem c_intI : Can K rInt1 (ar1 iD) iD (fun p => .ret p.1) := fun x vs F H Q Qp Ep fz d m hq => by
  obtain ⟨v, rfl, d1⟩ := ars1 d
  rw [dp_int d1]
  exact .inl ⟨_, rfl, hq _ m _ F H (Grow.refl fz) (.int _)⟩
theorem c_intB : Can K rInt1 (ar1 bD) iD (fun p => .ret (if p.1 then 1 else 0)) := fun x vs F H Q Qp Ep fz d m hq => by
  obtain ⟨v, rfl, d1⟩ := ars1 d
  rw [dp_bl d1]
  exact .inr ⟨_, rfl, hq _ m _ F H (Grow.refl fz) (.int _)⟩
def strW (i : Int) : W Str := .need (i.natAbs.log2 < 1920) (.ret (Str.ofString (toString i)))
theorem c_str : Can K (fun xs H Q => ∃ i : Int, xs = [.int i] ∧ i.natAbs.log2 < 1920 ∧ Q (.str (toString i)) H) (ar1 iD) sD (fun p => strW p.1) := fun x vs F H Q Qp Ep fz d m hq => by
  obtain ⟨v, rfl, d1⟩ := ars1 d
  rw [dp_int d1]
  exact ⟨_, rfl, m.1, hq _ m.2 _ F H (Grow.refl fz) (.str _)⟩
def intSW (a : Str) : W Int := fun Q _ => ∃ n, PySem.intText? a = some n ∧ a.length ≤ 640 ∧ Q n
theorem c_intS : Can K (fun xs H Q => ∃ a n, xs = [.str a] ∧ PySem.intText? a = some n ∧ a.length ≤ 640 ∧ Q (.int n) H) (ar1 sD) iD (fun p => intSW p.1) := fun x vs F H Q Qp Ep fz d m hq => by
  obtain ⟨v, rfl, d1⟩ := ars1 d
  rw [dp_str d1]
  obtain ⟨n, h1, h2, q⟩ := m
  exact ⟨_, n, rfl, h1, h2, hq _ q _ F H (Grow.refl fz) (.int _)⟩
abbrev rLenK (K : PySem.W.Frag) : List V → Hp → VK → Prop := fun xs H Q => ∃ x n, xs = [x] ∧ LenV K x H n ∧ Q (.int n) H
theorem c_lenL : Can K (rLenK K) (ar1 (lD f)) iD (fun p => .ret (p.1.length : Int)) := fun x vs F H Q Qp Ep fz d m hq => by
  obtain ⟨v, rfl, d1⟩ := ars1 d
  obtain ⟨a, us, rfl, h1, h2⟩ := dp_lst d1
  have e := dpa_len h2
  rw [List.length_map] at e
  exact ⟨_, us.length, rfl, .inl ⟨us, sql_un fz h1, rfl⟩, hq _ m _ F H (Grow.refl fz) (by rw [e]; exact .int _)⟩
theorem c_lenT : Can K (rLenK K) (ar1 (tD f)) iD (fun p => .ret (p.1.length : Int)) := fun x vs F H Q Qp Ep fz d m hq => by
  obtain ⟨v, rfl, d1⟩ := ars1 d
  obtain ⟨a, us, rfl, h1, h2⟩ := dp_tup d1
  have e := dpa_len h2
  rw [List.length_map] at e
  exact ⟨_, us.length, rfl, .inr ⟨us, sqt_un fz h1, rfl⟩, hq _ m _ F H (Grow.refl fz) (by rw [e]; exact .int _)⟩
def lenSW (a : Str) : W Int := .need (a.length ≤ sizeLine) (.ret (a.length : Int))
theorem c_lenS : Can K (rLenK K) (ar1 sD) iD (fun p => lenSW p.1) := fun x vs F H Q Qp Ep fz d m hq => by
  obtain ⟨v, rfl, d1⟩ := ars1 d
  rw [dp_str d1]
  exact ⟨_, x.1.length, rfl, ⟨m.1, rfl⟩, hq _ m.2 _ F H (Grow.refl fz) (.int _)⟩
theorem dpa_ints : ∀ {U : Hp} {vs : List V} {ns : List Int}, DpAll K U vs (ns.map iD) → vs = ns.map V.int
  | _, _, [], h => by cases h; rfl
  | _, _, n :: ns, h => by
    cases h with
    | cons a r => rw [dp_int a, dpa_ints r]; rfl
theorem dpa_strs : ∀ {U : Hp} {vs : List V} {ns : List Str}, DpAll K U vs (ns.map sD) → vs = ns.map V.str
  | _, _, [], h => by cases h; rfl
  | _, _, n :: ns, h => by
    cases h with
    | cons a r => rw [dp_str a, dpa_strs r]; rfl
theorem ints_dpa : ∀ {U : Hp} {ns : List Int}, DpAll K U (ns.map V.int) (ns.map iD)
  | _, [] => .nil
  | _, n :: ns => .cons (.int n) ints_dpa
theorem strs_dpa : ∀ {U : Hp} {ns : List Str}, DpAll K U (ns.map V.str) (ns.map sD)
  | _, [] => .nil
  | _, n :: ns => .cons (.str n) strs_dpa
theorem c_sum : Can K (rSum K) (ar1 (lD iD)) iD (fun p => .ret p.1.sum) := fun x vs F H Q Qp Ep fz d m hq => by
  obtain ⟨v, rfl, d1⟩ := ars1 d
  obtain ⟨a, us, rfl, h1, h2⟩ := dp_lst d1
  rw [dpa_ints h2] at h1
  exact ⟨a, x.1, rfl, sql_un fz h1, hq _ m _ F H (Grow.refl fz) (.int _)⟩
/-- sorted ints: some rearrangement in order (there is one) -/
def sortIW (xs : List Int) : W (List Int) := fun Q _ => ∀ ys : List Int, ys.Perm xs → ys.Pairwise (· ≤ ·) → Q ys
theorem c_sortI : Can K (rSortedI K) (ar1 (lD iD)) (lD iD) (fun p => sortIW p.1) := fun x vs F H Q Qp Ep fz d m hq => by
  obtain ⟨v, rfl, d1⟩ := ars1 d
  obtain ⟨a, us, rfl, h1, h2⟩ := dp_lst d1
  rw [dpa_ints h2] at h1
  refine ⟨a, x.1, rfl, sql_un fz h1, fun ys p hp hs hn => hq ys (m ys hp hs) _ _ _ (Grow.new fz hn) (.lst (.inl (.inl (un_iff.mpr updF_same))) ints_dpa)⟩
abbrev rTupOf (K : PySem.W.Frag) : List V → Hp → VK → Prop := fun xs H Q => ∃ p ys, xs = [.ref p] ∧ ((SqL K H p ys ∧ ∀ l, H l = none → Q (.ref l) (upd H l (.tup ys))) ∨ (SqT K H p ys ∧ Q (.ref p) H))
theorem c_tupL : Can K (rTupOf K) (ar1 (lD f)) (tD f) (fun p => .ret p.1) := fun x vs F H Q Qp Ep fz d m hq => by
  obtain ⟨v, rfl, d1⟩ := ars1 d
  obtain ⟨a, us, rfl, h1, h2⟩ := dp_lst d1
  refine ⟨a, us, rfl, .inl ⟨sql_un fz h1, fun l hl => ?_⟩⟩
  have G := Grow.new (o := .tup us) fz hl
  exact hq _ m _ _ _ G (.tup (.inl (.inl (un_iff.mpr updF_same))) (dpa_mono G.un h2))
theorem c_tupT : Can K (rTupOf K) (ar1 (tD f)) (tD f) (fun p => .ret p.1) := fun x vs F H Q Qp Ep fz d m hq => by
  obtain ⟨v, rfl, d1⟩ := ars1 d
  obtain ⟨a, us, rfl, h1, h2⟩ := dp_tup d1
  exact ⟨a, us, rfl, .inr ⟨sqt_un fz h1, hq _ m _ F H (Grow.refl fz) d1⟩⟩
/-! ### 19. texts -/
def addSW (a b : Str) : W Str := .need (a.length + b.length ≤ sizeLine) (.ret (a ++ b))
theorem o_addS : Opn K (fun x y H Q => ∃ i j : Str, x = .str i ∧ y = .str j ∧ i.length + j.length ≤ sizeLine ∧ Q (.str (i ++ j)) H) sD sD sD addSW := Opn.of fun x y vx vy F H Q Qp Ep hu dx dy m hq =>
  ⟨x, y, dp_str dx, dp_str dy, m.1, hq _ m.2 _ fun U => .str _⟩
/-- a text so many times -/
def repS (x : Str) (n : Int) : Str := ⟨(List.replicate n.toNat x.cps.toList).flatten.toArray⟩
def repOk (x : Str) (n : Int) : Prop := -(2 ^ 63) ≤ n ∧ n < 2 ^ 63 ∧ x.length * n.toNat ≤ sizeLine
def repSW (x : Str) (n : Int) : W Str := .need (repOk x n) (.ret (repS x n))
theorem foldl_cps (l : List (Array Nat)) (acc : Array Nat) : (l.foldl (· ++ ·) acc).toList = acc.toList ++ (l.map Array.toList).flatten := by
  induction l generalizing acc with
  | nil => simp
  | cons a l ih => rw [List.foldl_cons, ih]; simp
theorem rep_eq (x : Str) (n : Int) : (⟨(List.replicate n.toNat x.cps).foldl (· ++ ·) #[]⟩ : Str) = repS x n := by
  have e := foldl_cps (List.replicate n.toNat x.cps) #[]
  rw [List.map_replicate] at e
  have e2 : (List.replicate n.toNat x.cps).foldl (· ++ ·) #[] = ((List.replicate n.toNat x.cps.toList).flatten).toArray := by
    apply Array.toList_inj.mp
    rw [e]; simp
  unfold repS
  rw [e2]
end
end Wl
namespace Wl
open PySem PySem.Spec PyProof.Rows L2
/-! ### 20. sorted of a list or a tuple -/
section
variable {prog : Program} {w : World} {A : Around} {E : Value → Shared → Prop} {s : Shared}
theorem sorted_seq {it : Addr} {T : String} {o : Obj} {vs : List Value} {n : Nat} {ltv : Value → Value → Bool} {Q : Value → Shared → Prop} (O : SrtO.Swo ltv) (hT : T = "list" ∨ T = "tuple") (ho : s.heap.get? it = some o) (hc : o.cls = .type T) (hd : o.data = .seq vs.toArray n) (hz : vs.length ≤ sizeLine)
    (hS : 2 ≤ vs.length → ∀ (h1 : Heap) (a : Addr), h1.get? a = some (seqObj "list" vs.toArray 0) → (∀ b u, s.heap.get? b = some u → b ≠ a ∧ h1.get? b = some u) → SrtO.SortableO prog w A.in1.in1 { s with heap := h1 } a vs ltv)
    (h : ∀ (h' : Heap) (d : Addr) (out : List Value), SrtO.Srtd ltv out → SrtO.Stb ltv out vs → (∀ b u, s.heap.get? b = some u → b ≠ d ∧ h'.get? b = some u) → (∃ k, h'.get? d = some (seqObj "list" out.toArray k)) → Q (.ref d) { s with heap := h' }) :
    wpAny (model prog w) A (call (.builtin "sorted") [.ref it]) Q E s := by
  apply Calls.call_function_entry kind_sorted plain_sorted entry_sorted (args_sorted1 _)
  unfold Builtin.«sorted»
  apply wpAny_bind (m := checkCount "sorted" 1 1 _)
  apply wpAny_pure
  apply wpAny_bind
  refine wpAny_collect_seq (hsz := by rw [List.size_toArray]; exact hz) it hT ho hc hd fun h1 k1 => ?_
  apply wpAny_bind
  refine wpAny_newList ?_ hz
  have new : (h1.push (seqObj "list" vs.toArray 0)).get? h1.objs.size = some (seqObj "list" vs.toArray 0) := Heap.get?_push_size h1 rfl
  have old : ∀ b u, s.heap.get? b = some u → b ≠ h1.objs.size ∧ (h1.push (seqObj "list" vs.toArray 0)).get? b = some u := fun b u q =>
    ⟨Nat.ne_of_lt (Heap.lt_size (k1 b u q)), Heap.get?_push_of_some _ (k1 b u q)⟩
  show wpAny _ _ _ _ _ { s with heap := h1.push (seqObj "list" vs.toArray 0) }
  apply wpAny_bind
  apply wpAny_holding
  refine wpAny_call_entry slot_list_sort ⟨_, new, rfl⟩ entry_list_sort ?_ (args_list_sort _)
  apply SrtO.list_sort_ord O new hz (fun h2 => hS h2 _ _ new old)
  intro out hs hb
  refine ⟨_, rfl, wpAny_pure ⟨_, rfl, ?_⟩⟩
  refine h _ h1.objs.size out hs hb (fun b u q => ?_) (sortedHeap_at new)
  obtain ⟨e1, e2⟩ := old b u q
  exact ⟨e1, by rw [sortedHeap_old e1 (Heap.lt_size e2)]; exact e2⟩
end
section
variable {X : Cx} {K : PySem.W.Frag}
theorem inv_new {pins : List (Addr × Obj)} {σ : L2.St} {H : Hp} {s : Shared} {h' : Heap} {d : Addr} {o : HO} {t' : Nat} (I : Inv X pins σ H s) (k : ∀ b u, s.heap.get? b = some u → b ≠ d ∧ h'.get? b = some u) (new : ObjOk X.prog X.w (upd H d o) h' d o) : H d = none ∧ Inv X pins σ (upd H d o) { s with heap := h', toks := t' } := by
  have hn : H d = none := by
    cases e : H d with
    | none => rfl
    | some q =>
      obtain ⟨u, hu⟩ := objOk_get (I.hok d q e)
      exact absurd rfl (k d u hu).1
  refine ⟨hn, I.un (t' := t') ⟨fun b u q _ _ _ => (k b u q).2, fun b u q _ _ _ => ⟨u.slots, (k b u q).2⟩, fun b u q n _ => by rw [upd_ne (k b u q).1]; exact n, fun b u q _ => ⟨u, (k b u q).2⟩, fun b xs q => by rw [upd_ne (ne_of_none q hn)]; exact q,
    fun b u xs q => by rw [upd_ne (ne_of_none q hn)]; exact q, fun b ps q => ⟨#[], by rw [upd_ne (ne_of_none q hn), q]; simp⟩⟩ fun b u q => ?_⟩
  by_cases e : b = d
  · subst e
    rw [upd_same] at q
    cases q
    exact new
  · rw [upd_ne e] at q
    exact (I.hok b u q).stay (fun c v _ z => (k c v z).2) (fun c z => by rw [upd_ne (ne_of_none z hn)]; exact z) fun c xs z => by rw [upd_ne (ne_of_none z hn)]; exact z
/-- what may be sorted: items by an order of data -/
def SqAny (K : PySem.W.Frag) (H : Hp) (a : Addr) (xs : List V) : Prop := SqL K H a xs ∨ SqT K H a xs
theorem inv_seq {pins : List (Addr × Obj)} {σ : L2.St} {H : Hp} {s : Shared} (I : Inv X pins σ H s) {a : Addr} {xs : List V} (h : SqAny X.K H a xs) : ∃ (T : String) (o : Obj) (vs : List Value) (n : Nat), (T = "list" ∨ T = "tuple") ∧ s.heap.get? a = some o ∧ o.cls = .type T ∧ o.data = .seq vs.toArray n ∧ Vals xs vs ∧ vs.length ≤ sizeLine := by
  rcases h with h | h
  · obtain ⟨its, r, hl, hz⟩ := I.list h
    obtain ⟨o, ho, hc, n, hd⟩ := hl.isList
    exact ⟨"list", o, its, n, .inl rfl, ho, hc, by rw [hd], r, by rw [← r.length]; exact hz⟩
  · obtain ⟨its, r, ht, hz⟩ := I.tuple h
    obtain ⟨o, ho, hc, n, hd⟩ := ht
    exact ⟨"tuple", o, its, n, .inr rfl, ho, hc, by rw [hd], r, by rw [← r.length]; exact hz⟩
end
section
variable {X : Cx} {K : PySem.W.Frag} {α β γ : Type} {f : α → PyData} {g : β → PyData}
def rSortIA (K : PySem.W.Frag) : List V → Hp → VK → Prop := fun vs H Q => ∃ (a : Addr) (ns : List Int), vs = [V.ref a] ∧ SqAny K H a (ns.map V.int) ∧
  ∀ (ms : List Int) (p : Addr), ms.Perm ns → ms.Pairwise (· ≤ ·) → H p = none → Q (.ref p) (upd H p (.lst (ms.map V.int)))
theorem cr_sortIA : CallR X (.builtin "sorted") (rSortIA X.K) := by
  intro pins s σ H vs us Q I r h
  obtain ⟨a, ns, rfl, hs, q⟩ := h
  obtain ⟨T, o, its, n, hT, ho, hc, hd, rv, hz⟩ := inv_seq I hs
  rw [Vals.ref1 r]
  have hi := rv.ints
  refine sorted_seq SrtO.swo_int hT ho hc hd hz (fun h2 h1 a' _ _ => SrtO.ints_sortable hi h2) fun h' d out h1 h2 k hn => ?_
  obtain ⟨k1, k2, k3⟩ := SrtO.ints_out hi h1 h2
  obtain ⟨n2, hn⟩ := hn
  have hl : ((out.map SrtO.iv).map V.int).length ≤ sizeLine := by
    rw [List.length_map, k2.length_eq, ← List.length_map (f := V.int), rv.length]
    exact hz
  obtain ⟨e1, e2⟩ := inv_new (t' := s.toks) (o := .lst ((out.map SrtO.iv).map V.int)) I k ⟨hl, out, n2, vals_of_ints k1, hn⟩
  exact ⟨.ref d, _, e2, rfl, q _ d k2 k3 e1⟩
theorem c_sortIL : Can K (rSortIA K) (ar1 (lD iD)) (lD iD) (fun p => sortIW p.1) := fun x vs F H Q Qp Ep fz d m hq => by
  obtain ⟨v, rfl, d1⟩ := ars1 d
  obtain ⟨a, us, rfl, h1, h2⟩ := dp_lst d1
  rw [dpa_ints h2] at h1
  exact ⟨a, x.1, rfl, .inl (sql_un fz h1), fun ys p hp hs hn => hq ys (m ys hp hs) _ _ _ (Grow.new fz hn) (.lst (.inl (.inl (un_iff.mpr updF_same))) ints_dpa)⟩
theorem c_sortIT : Can K (rSortIA K) (ar1 (tD iD)) (lD iD) (fun p => sortIW p.1) := fun x vs F H Q Qp Ep fz d m hq => by
  obtain ⟨v, rfl, d1⟩ := ars1 d
  obtain ⟨a, us, rfl, h1, h2⟩ := dp_tup d1
  rw [dpa_ints h2] at h1
  exact ⟨a, x.1, rfl, .inr (sqt_un fz h1), fun ys p hp hs hn => hq ys (m ys hp hs) _ _ _ (Grow.new fz hn) (.lst (.inl (.inl (un_iff.mpr updF_same))) ints_dpa)⟩
/-! pairs of ints -/
abbrev pD : Int × Int → PyData := t2 iD iD
def lexLe (p q : Int × Int) : Prop := p.1 < q.1 ∨ (p.1 = q.1 ∧ p.2 ≤ q.2)
theorem isPair_inj {h : Heap} {v : Value} {i j k l : Int} (a : Srt.IsPair h v i j) (b : Srt.IsPair h v k l) : i = k ∧ j = l := by
  obtain ⟨t, o, t1, t2, n, rfl, ho, hc, hd⟩ := a
  obtain ⟨t', o', t1', t2', n', e, ho', hc', hd'⟩ := b
  cases e
  rw [ho] at ho'
  cases ho'
  rw [hd] at hd'
  cases hd'
  exact ⟨rfl, rfl⟩
theorem dp_pair {pins : List (Addr × Obj)} {σ : L2.St} {H : Hp} {s : Shared} (I : Inv X pins σ H s) {v : V} {u : Value} {p : Int × Int} (d : Dp X.K H v (pD p)) (r : RelV v u) : Srt.IsPair s.heap u p.1 p.2 := by
  obtain ⟨t, xs, rfl, h1, h2⟩ := dp_tup d
  obtain rfl : u = Value.ref t := r
  obtain ⟨its, rv, ht, _⟩ := I.tuple h1
  obtain ⟨o, ho, hc, n, hd⟩ := ht
  cases h2 with
  | cons a b =>
    cases b with
    | cons c e =>
      cases e
      rw [dp_int a, dp_int c] at rv
      obtain ⟨u1, u2, rfl, r1, r2⟩ := vals2 rv
      obtain ⟨t1, rfl⟩ := r1
      obtain ⟨t2, rfl⟩ := r2
      exact ⟨t, o, t1, t2, n, rfl, ho, hc, hd⟩
noncomputable def pairOf (h : Heap) (v : Value) : Int × Int := by
  classical exact if e : ∃ p : Int × Int, Srt.IsPair h v p.1 p.2 then e.choose else (0, 0)
theorem pairOf_eq {h : Heap} {v : Value} {p : Int × Int} (e : Srt.IsPair h v p.1 p.2) : pairOf h v = p := by
  have ex : ∃ p : Int × Int, Srt.IsPair h v p.1 p.2 := ⟨p, e⟩
  unfold pairOf
  rw [dif_pos ex]
  obtain ⟨e1, e2⟩ := isPair_inj ex.choose_spec e
  exact Prod.ext e1 e2
def rSortPA (K : PySem.W.Frag) : List V → Hp → VK → Prop := fun vs H Q => ∃ (a : Addr) (xs : List V) (ps : List (Int × Int)), vs = [V.ref a] ∧ SqAny K H a xs ∧ DpAll K H xs (ps.map pD) ∧
  ∀ (ys : List V) (qs : List (Int × Int)) (p : Addr), (∀ y q, (y, q) ∈ ys.zip qs → (y, q) ∈ xs.zip ps) → ys.length = qs.length → qs.Perm ps → qs.Pairwise lexLe → H p = none → Q (.ref p) (upd H p (.lst ys))
theorem dpa_zip {H : Hp} : ∀ {xs : List V} {ps : List α}, DpAll K H xs (ps.map f) → ∀ x p, (x, p) ∈ xs.zip ps → Dp K H x (f p)
  | [], [], _, _, _, h => by cases h
  | x :: xs, p :: ps, .cons a r, y, q, h => by
    rcases List.mem_cons.mp h with e | e
    · cases e; exact a
    · exact dpa_zip r y q e
theorem dpa_of_zip {H : Hp} : ∀ {xs : List V} {ps : List α}, xs.length = ps.length → (∀ x p, (x, p) ∈ xs.zip ps → Dp K H x (f p)) → DpAll K H xs (ps.map f)
  | [], [], _, _ => .nil
  | x :: xs, p :: ps, hl, h => .cons (h x p List.mem_cons_self) (dpa_of_zip (Nat.succ.inj hl) fun y q m => h y q (List.mem_cons_of_mem _ m))
theorem zip3 : ∀ {xs : List V} {us : List Value} {ps : List (Int × Int)} {k : Value → Int × Int} {b : Value → V}, us.length = xs.length → us.length = ps.length → (∀ i (h : i < us.length), xs[i]? = some (b us[i]) ∧ ps[i]? = some (k us[i])) → xs = us.map b ∧ ps = us.map k
  | xs, us, ps, k, b, h1, h2, h => by
    refine ⟨List.ext_getElem? fun i => ?_, List.ext_getElem? fun i => ?_⟩
    · by_cases q : i < us.length
      · rw [(h i q).1, List.getElem?_map, List.getElem?_eq_getElem q]; rfl
      · rw [List.getElem?_eq_none (by omega), List.getElem?_eq_none (by rw [List.length_map]; omega)]
    · by_cases q : i < us.length
      · rw [(h i q).2, List.getElem?_map, List.getElem?_eq_getElem q]; rfl
      · rw [List.getElem?_eq_none (by omega), List.getElem?_eq_none (by rw [List.length_map]; omega)]
theorem zip_map_mem {γ δ ε : Type} {l : List γ} {a : γ → δ} {b : γ → ε} {x : δ} {y : ε} : (x, y) ∈ (l.map a).zip (l.map b) ↔ ∃ z ∈ l, a z = x ∧ b z = y := by
  induction l with
  | nil => simp
  | cons c l ih =>
    rw [List.map_cons, List.map_cons, List.zip_cons_cons, List.mem_cons, ih]
    constructor
    · rintro (h | ⟨z, h1, h2⟩)
      · cases h; exact ⟨c, List.mem_cons_self, rfl, rfl⟩
      · exact ⟨z, List.mem_cons_of_mem _ h1, h2⟩
    · rintro ⟨z, h1, h2, h3⟩
      rcases List.mem_cons.mp h1 with e | e
      · left; rw [← e, h2, h3]
      · exact .inr ⟨z, e, h2, h3⟩
theorem cr_sortPA : CallR X (.builtin "sorted") (rSortPA X.K) := by
  intro pins s σ H vs us Q I r h
  obtain ⟨a, xs, ps, rfl, hs, dd, q⟩ := h
  obtain ⟨T, o, its, n, hT, ho, hc, hd, rv, hz⟩ := inv_seq I hs
  rw [Vals.ref1 r]
  have l1 : its.length = xs.length := rv.length.symm
  have l2 : xs.length = ps.length := by rw [dpa_len dd, List.length_map]
  have at_ : ∀ i (h : i < its.length), ∃ x p, xs[i]? = some x ∧ ps[i]? = some p ∧ Dp X.K H x (pD p) ∧ RelV x its[i] := fun i hi => by
    have hx : i < xs.length := by omega
    have hp : i < ps.length := by omega
    obtain ⟨d, e1, e2⟩ := dpa_get' dd (List.getElem?_eq_getElem hx)
    rw [List.getElem?_map, List.getElem?_eq_getElem hp] at e1
    cases e1
    obtain ⟨u, e3, e4⟩ := rv.get (List.getElem?_eq_getElem hx)
    rw [List.getElem?_eq_getElem hi] at e3
    cases e3
    exact ⟨xs[i], ps[i], List.getElem?_eq_getElem hx, List.getElem?_eq_getElem hp, e2, e4⟩
  have pr : ∀ v ∈ its, Srt.IsPair s.heap v (pairOf s.heap v).1 (pairOf s.heap v).2 := fun v hv => by
    obtain ⟨i, hi, rfl⟩ := List.mem_iff_getElem.mp hv
    obtain ⟨x, p, _, _, e3, e4⟩ := at_ i hi
    have z := dp_pair I e3 e4
    rw [pairOf_eq z]; exact z
  obtain ⟨ex, ep⟩ := zip3 (xs := xs) (us := its) (ps := ps) (k := pairOf s.heap) (b := backV) l1 (by omega) fun i hi => by
    obtain ⟨x, p, e1, e2, e3, e4⟩ := at_ i hi
    obtain ⟨t, ys, rfl, _, _⟩ := dp_tup e3
    have e5 : its[i] = Value.ref t := e4
    refine ⟨by rw [e1, e5]; rfl, by rw [e2, pairOf_eq (dp_pair I e3 e4)]⟩
  refine sorted_seq (SrtO.swo_lex (pairOf s.heap)) hT ho hc hd hz (fun h2 h1 a' ha kk => SrtO.pairs_sortableO (s := { s with heap := h1 }) (by omega) (fun v hm => (pr v hm).keeps fun b o e _ => (kk b o e).2) fun o e => ?_) fun h' d out h1 h2 k hn => ?_
  · have e' : some o = some (seqObj "list" its.toArray 0) := e.symm.trans ha
    cases e'
    intro c
    exact absurd (Value.type.inj c) (by decide)
  · obtain ⟨n2, hn⟩ := hn
    have h3 : ∀ u ∈ out, ∃ a, u = Value.ref a := fun u hu => by
      obtain ⟨t, o, t1, t2, n, e, _⟩ := pr u (h2.perm.mem_iff.mp hu)
      exact ⟨t, e⟩
    obtain ⟨e1, e2⟩ := inv_new (t' := s.toks) (o := .lst (out.map backV)) I k ⟨by rw [List.length_map, h2.perm.length_eq]; exact hz, out, n2, vals_back h3, hn⟩
    refine ⟨.ref d, _, e2, rfl, q _ (out.map (pairOf s.heap)) d (fun y p hm => ?_) (by rw [List.length_map, List.length_map]) ?_ ?_ e1⟩
    · rw [ex, ep]
      obtain ⟨z, m, z1, z2⟩ := zip_map_mem.mp hm
      exact zip_map_mem.mpr ⟨z, h2.perm.mem_iff.mp m, z1, z2⟩
    · rw [ep]; exact h2.perm.map _
    · refine List.pairwise_map.mpr (List.Pairwise.imp (fun {a b} hab => ?_) h1)
      have z := SrtO.lexB_no.mp hab
      unfold lexLe
      omega
def sortPW (xs : List (Int × Int)) : W (List (Int × Int)) := fun Q _ => ∀ ys : List (Int × Int), ys.Perm xs → ys.Pairwise lexLe → Q ys
theorem c_sortPL : Can K (rSortPA K) (ar1 (lD pD)) (lD pD) (fun p => sortPW p.1) := fun x vs F H Q Qp Ep fz d m hq => by
  obtain ⟨v, rfl, d1⟩ := ars1 d
  obtain ⟨a, us, rfl, h1, h2⟩ := dp_lst d1
  refine ⟨a, us, x.1, rfl, .inl (sql_un fz h1), dpa_mono fz.un h2, fun ys qs p hz hl hp hs hn => ?_⟩
  have G := Grow.new (o := .lst ys) fz hn
  exact hq qs (m qs hp hs) _ _ _ G (.lst (.inl (.inl (un_iff.mpr updF_same))) (dpa_mono G.un (dpa_of_zip hl fun y q hm => dpa_zip h2 y q (hz y q hm))))
theorem c_sortPT : Can K (rSortPA K) (ar1 (tD pD)) (lD pD) (fun p => sortPW p.1) := fun x vs F H Q Qp Ep fz d m hq => by
  obtain ⟨v, rfl, d1⟩ := ars1 d
  obtain ⟨a, us, rfl, h1, h2⟩ := dp_tup d1
  refine ⟨a, us, x.1, rfl, .inr (sqt_un fz h1), dpa_mono fz.un h2, fun ys qs p hz hl hp hs hn => ?_⟩
  have G := Grow.new (o := .lst ys) fz hn
  exact hq qs (m qs hp hs) _ _ _ G (.lst (.inl (.inl (un_iff.mpr updF_same))) (dpa_mono G.un (dpa_of_zip hl fun y q hm => dpa_zip h2 y q (hz y q hm))))
end
end Wl
namespace Wl
open PySem PySem.Spec PyProof.Rows L2
section
variable {X : Cx} {K : PySem.W.Frag} {C : Ct} {ρ : List Sl} {tg e e2 : Expr} {α β γ : Type} {f : α → PyData} {g : β → PyData} {pos : Pos}
/-! ### 21. slices -/
def cutL {α : Type} (xs : List α) (lo hi : Option Int) : List α := (xs.drop (HT.sIx xs.length 0 lo)).take (HT.sIx xs.length xs.length hi - HT.sIx xs.length 0 lo)
theorem cut_dpa {H : Hp} {vs : List V} {xs : List α} (h : DpAll K H vs (xs.map f)) (lo hi : Option Int) : DpAll K H (cutV vs lo hi) ((cutL xs lo hi).map f) := by
  have e := dpa_len h
  rw [List.length_map] at e
  unfold cutV cutL
  rw [e, List.map_take, List.map_drop]
  exact dpa_take _ (dpa_drop _ h)
theorem s_list {x : List α} {l u : Option Int} {v : V} {F : Fh} {H : Hp} {Q : VK} {Qp : List α → Prop} {Ep : Str → Prop} (fz : Fz F H) (d : Dp K (un F) v (lD f x)) (m : (W.ret (cutL x l u)) Qp Ep) (hq : ∀ z, Qp z → ∀ v F' H', Grow F H F' H' → Dp K (un F') v (lD f z) → Q v H') : rSlL K v l u H Q := by
  obtain ⟨a, us, rfl, h1, h2⟩ := dp_lst d
  refine ⟨a, us, rfl, sql_un fz h1, fun p hp => ?_⟩
  have G := Grow.new (o := .lst (cutV us l u)) fz hp
  exact hq _ m _ _ _ G (.lst (.inl (.inl (un_iff.mpr updF_same))) (dpa_mono G.un (cut_dpa h2 l u)))
theorem em_sliceL {lo hi : Option Expr} {p2 : Pos} {ma : W (List α)} {ml mh : W (Option Int)} (h : EM C ρ e (lD f) ma) (hl : OM C ρ lo ml) (hh : OM C ρ hi mh) : EM C ρ (.Subscript e (.Slice lo hi none p2) pos) (lD f) (ma.bd fun x => ml.bd fun l => mh.bd fun u => .ret (cutL x l u)) :=
  em_slice sl_list h hl hh fun x l u v F H Q Qp Ep fz d m hq => s_list fz d m hq
def cutSW (x : Str) (l u : Option Int) : W Str := .need (x.length ≤ sizeLine) (.ret (cutS x l u))
theorem em_sliceS {lo hi : Option Expr} {p2 : Pos} {ma : W Str} {ml mh : W (Option Int)} (h : EM C ρ e sD ma) (hl : OM C ρ lo ml) (hh : OM C ρ hi mh) : EM C ρ (.Subscript e (.Slice lo hi none p2) pos) sD (ma.bd fun x => ml.bd fun l => mh.bd fun u => cutSW x l u) :=
  em_slice sl_str h hl hh fun x l u v F H Q Qp Ep fz d m hq => ⟨x, dp_str d, m.1, hq _ m.2 _ F H (Grow.refl fz) (.str _)⟩
/-! ### 22. texts -/
theorem op_mulS : OpR X (binaryOp .Mult) (fun x y H Q => ∃ z n, x = .str z ∧ y = .int n ∧ repOk z n ∧ Q (.str (repS z n)) H) := by
  intro pins s σ H x y v u Q I rx ry h
  obtain ⟨z, n, rfl, rfl, ⟨h1, h2, h3⟩, q⟩ := h
  obtain ⟨t, rfl⟩ := rx
  obtain ⟨t2, rfl⟩ := ry
  have b1 : ¬ n < -(2 ^ 63) := by omega
  have b2 : ¬ n ≥ 2 ^ 63 := by omega
  refine PySem.P.mul_str (by rw [decide_eq_false b1, decide_eq_false b2]; rfl) (fun c1 c2 => ?_) (fun c1 c2 => ?_) ?_
  · intro hgt
    have hn : 0 < n := by omega
    have q1 : (2 ^ 63 - 1 : Int) < (z.length : Int) * n := by
      have e1 : (2 ^ 63 - 1 : Int) / n + 1 ≤ (z.length : Int) := by omega
      have e2 := Int.lt_ediv_add_one_mul_self (2 ^ 63 - 1 : Int) hn
      exact Int.lt_of_lt_of_le e2 (Int.mul_le_mul_of_nonneg_right e1 (by omega))
    have q2 : ((z.length * n.toNat : Nat) : Int) ≤ (sizeLine : Nat) := Int.ofNat_le.mpr h3
    have q3 : ((z.length * n.toNat : Nat) : Int) = (z.length : Int) * n := by
      rw [Int.natCast_mul, Int.toNat_of_nonneg (by omega)]
    rw [q3, sizeLine_eq] at q2
    omega
  · unfold PySem.Builtin.Str.tooLong
    exact decide_eq_false (by omega)
  · have fin : ∀ (w : Str) (k : Nat), w = repS z n → EP X pins σ Q (.str w k) { s with toks := k + 1 } := fun w k e => by
      subst e
      exact ⟨.str _, H, I.tok _, ⟨_, rfl⟩, q⟩
    have fin2 : ∀ (w : Str) (t : Tok), w = repS z n → EP X pins σ Q (.str w t) s := fun w t e => by
      subst e
      exact ⟨.str _, H, I, ⟨_, rfl⟩, q⟩
    have lenr : (repS z n).length = z.length * n.toNat := by
      unfold repS Str.length
      rw [List.size_toArray, List.length_flatten, List.map_replicate, List.sum_replicate_nat, Nat.mul_comm]
      rfl
    by_cases c1 : n < 1
    · rw [if_pos c1]
      have e : Str.empty = repS z n := by
        unfold repS
        rw [show n.toNat = 0 by omega]; rfl
      refine ⟨by rw [e, lenr]; exact h3, ?_⟩
      exact fin _ _ e
    · rw [if_neg c1]
      by_cases c2 : (n == 1 || z.length == 0) = true
      · rw [if_pos c2]
        refine fin2 z t ?_
        unfold repS
        rw [Bool.or_eq_true, beq_iff_eq, beq_iff_eq] at c2
        rcases c2 with c2 | c2
        · rw [c2]; simp
        · have e0 : z.cps.toList = [] := by
            have : z.cps.size = 0 := c2
            rw [← Array.length_toList] at this
            exact List.length_eq_zero_iff.mp this
          rw [e0]
          have e3 : (List.replicate n.toNat ([] : List Nat)).flatten = [] := by
            induction n.toNat with
            | zero => rfl
            | succ k ih => rw [List.replicate_succ, List.flatten_cons, ih]; rfl
          rw [e3]
          have e4 : z.cps = #[] := by
            apply Array.toList_inj.mp
            rw [e0]
          cases z
          simp only at e4
          rw [e4]
      · rw [if_neg c2, rep_eq]
        refine ⟨by rw [lenr]; exact h3, fin _ _ rfl⟩
theorem o_mulS : Opn K (fun x y H Q => ∃ z n, x = .str z ∧ y = .int n ∧ repOk z n ∧ Q (.str (repS z n)) H) sD iD sD repSW := Opn.of fun x y vx vy F H Q Qp Ep hu dx dy m hq =>
  ⟨x, y, dp_str dx, dp_int dy, m.1, hq _ m.2 _ fun U => .str _⟩
/-- one sign within a text -/
def inSW (a b : Str) : W Bool := fun Q _ => ∃ c : Nat, a = ⟨#[c]⟩ ∧ Q (decide (c ∈ b.cps.toList))
def ninSW (a b : Str) : W Bool := fun Q _ => ∃ c : Nat, a = ⟨#[c]⟩ ∧ Q (!decide (c ∈ b.cps.toList))
theorem o_inS : Opn K (fun x y H Q => ∃ (c : Nat) (z : Str), x = .str ⟨#[c]⟩ ∧ y = .str z ∧ Q (.bl (decide (c ∈ z.cps.toList))) H) sD sD bD inSW := Opn.of fun x y vx vy F H Q Qp Ep hu dx dy m hq => by
  obtain ⟨c, rfl, q⟩ := m
  exact ⟨c, y, dp_str dx, dp_str dy, hq _ q _ fun U => .bl _⟩
theorem o_ninS : Opn K (fun x y H Q => ∃ (c : Nat) (z : Str), x = .str ⟨#[c]⟩ ∧ y = .str z ∧ Q (.bl (!decide (c ∈ z.cps.toList))) H) sD sD bD ninSW := Opn.of fun x y vx vy F H Q Qp Ep hu dx dy m hq => by
  obtain ⟨c, rfl, q⟩ := m
  exact ⟨c, y, dp_str dx, dp_str dy, hq _ q _ fun U => .bl _⟩
theorem ty_s {x : Str} {v : V} {F : Fh} {H : Hp} (d : Dp K (un F) v (sD x)) : tyV K "str" v H := by rw [dp_str d]; rfl
theorem em_starts {a : Expr} {ap cp : Pos} {ma mb : W Str} (ho : EM C ρ e sD ma) (ha : EM C ρ a sD mb) (hs : noStar a = true := by rfl) (hbase : attributeBase e "startswith" C.X.env (eval e C.X.env) = eval e C.X.env := by rfl) (hline : (ap.endLine == cp.line) = true := by rfl) :
    EM C ρ (.Call (.Attribute e "startswith" ap) [a] [] cp) bD (ma.bd fun x => (mb.bd fun y => W.bd (.ret ()) fun z => .ret (y, z)).bd fun p => .ret (Txt.startswith x p.1)) :=
  em_bm PySem.F.plainAttrs_str PySem.F.slot_str_startswith PySem.F.type_str_startswith mt_startswith ho (am_cons ha am_nil hs) (fun x v F H fz d => ty_s d) (fun x b v vs F H Q Qp Ep fz d d2 m hq => by
    obtain ⟨u, rfl, d3⟩ := ars1 d2
    rw [dp_str d, dp_str d3]
    exact ⟨x, b.1, rfl, rfl, hq _ m _ F H (Grow.refl fz) (.bl _)⟩) hbase (by rw [star_of hs]; rfl) hline
def partW (a b : Str) : W (Str × Str × Str) := .need ((b.length == 0) = false ∧ a.length ≤ sizeLine) (.ret (Txt.partition a b))
theorem em_part {a : Expr} {ap cp : Pos} {ma mb : W Str} (ho : EM C ρ e sD ma) (ha : EM C ρ a sD mb) (hs : noStar a = true := by rfl) (hbase : attributeBase e "partition" C.X.env (eval e C.X.env) = eval e C.X.env := by rfl) (hline : (ap.endLine == cp.line) = true := by rfl) :
    EM C ρ (.Call (.Attribute e "partition" ap) [a] [] cp) (t3 sD sD sD) (ma.bd fun x => (mb.bd fun y => W.bd (.ret ()) fun z => .ret (y, z)).bd fun p => partW x p.1) :=
  em_bm PySem.F.plainAttrs_str PySem.F.slot_str_partition PySem.F.type_str_partition mt_partition ho (am_cons ha am_nil hs) (fun x v F H fz d => ty_s d) (fun x b v vs F H Q Qp Ep fz d d2 m hq => by
    obtain ⟨u, rfl, d3⟩ := ars1 d2
    rw [dp_str d, dp_str d3]
    refine ⟨x, b.1, rfl, rfl, m.1.1, m.1.2, fun p hp => ?_⟩
    have G := Grow.new (o := .tup [.str (Txt.partition x b.1).1, .str (Txt.partition x b.1).2.1, .str (Txt.partition x b.1).2.2]) fz hp
    exact hq _ m.2 _ _ _ G (.tup (.inl (.inl (un_iff.mpr updF_same))) (.cons (.str _) (.cons (.str _) (.cons (.str _) .nil))))) hbase (by rw [star_of hs]; rfl) hline
def splitW (a b : Str) : W (List Str) := .need ((b.length == 0) = false ∧ a.length + 2 ≤ sizeLine) (.ret (Txt.split a b))
theorem em_split {a : Expr} {ap cp : Pos} {ma mb : W Str} (ho : EM C ρ e sD ma) (ha : EM C ρ a sD mb) (hs : noStar a = true := by rfl) (hbase : attributeBase e "split" C.X.env (eval e C.X.env) = eval e C.X.env := by rfl) (hline : (ap.endLine == cp.line) = true := by rfl) :
    EM C ρ (.Call (.Attribute e "split" ap) [a] [] cp) (lD sD) (ma.bd fun x => (mb.bd fun y => W.bd (.ret ()) fun z => .ret (y, z)).bd fun p => splitW x p.1) :=
  em_bm PySem.F.plainAttrs_str PySem.F.slot_str_split PySem.F.type_str_split mt_split ho (am_cons ha am_nil hs) (fun x v F H fz d => ty_s d) (fun x b v vs F H Q Qp Ep fz d d2 m hq => by
    obtain ⟨u, rfl, d3⟩ := ars1 d2
    rw [dp_str d, dp_str d3]
    refine ⟨x, b.1, rfl, rfl, m.1.1, m.1.2, fun p hp => ?_⟩
    have G := Grow.new (o := .lst ((Txt.split x b.1).map V.str)) fz hp
    exact hq _ m.2 _ _ _ G (.lst (.inl (.inl (un_iff.mpr updF_same))) strs_dpa)) hbase (by rw [star_of hs]; rfl) hline
def joinW (a : Str) (ys : List Str) : W Str := .need ((ys.map (·.length)).sum + ys.length * a.length ≤ 16777216) (.ret (Txt.join a ys))
theorem em_join {a : Expr} {ap cp : Pos} {ma : W Str} {mb : W (List Str)} (ho : EM C ρ e sD ma) (ha : EM C ρ a (lD sD) mb) (hs : noStar a = true := by rfl) (hbase : attributeBase e "join" C.X.env (eval e C.X.env) = eval e C.X.env := by rfl) (hline : (ap.endLine == cp.line) = true := by rfl) :
    EM C ρ (.Call (.Attribute e "join" ap) [a] [] cp) sD (ma.bd fun x => (mb.bd fun y => W.bd (.ret ()) fun z => .ret (y, z)).bd fun p => joinW x p.1) :=
  em_bm PySem.F.plainAttrs_str PySem.F.slot_str_join PySem.F.type_str_join mt_join ho (am_cons ha am_nil hs) (fun x v F H fz d => ty_s d) (fun x b v vs F H Q Qp Ep fz d d2 m hq => by
    obtain ⟨u, rfl, d3⟩ := ars1 d2
    obtain ⟨a, us, rfl, h1, h2⟩ := dp_lst d3
    rw [dpa_strs h2] at h1
    rw [dp_str d]
    exact ⟨x, a, b.1, rfl, rfl, .inl (sql_un fz h1), m.1, hq _ m.2 _ F H (Grow.refl fz) (.str _)⟩) hbase (by rw [star_of hs]; rfl) hline
/-- a text walked sign by sign -/
def signs (z : Str) : List Str := z.cps.toList.map fun c => ⟨#[c]⟩
theorem im_str {ma : W Str} (h : EM C ρ e sD ma) : IM C ρ tg e sD (ma.bd fun z => .need (z.length ≤ sizeLine) (.ret (signs z))) := fun H0 σ F H R Qp Ep fz s mq hq he =>
  wpI_of (pi_str pe_wp) (h H0 σ F H _ _ Ep fz s mq (fun z ⟨hz, qz⟩ v F' H' G d => ⟨z, dp_str d, by
    have hl : ((signs z).map sD).length = z.cps.size := by rw [List.length_map, signs, List.length_map, Array.length_toList]
    refine hq _ qz _ F' H' G ⟨by rw [hl]; exact hz, fun i F2 H2 zf t hi => by rw [hl] at hi; exact hi, fun i F2 H2 x H3 zf t hi y => ?_, fun F2 H2 zf t => by rw [hl]; exact Nat.le_refl _⟩
    obtain ⟨rfl, c, e1, rfl⟩ := y
    refine ⟨F2, .str ⟨#[c]⟩, Grow.refl zf, ?_, .str _⟩
    rw [List.getElem?_map, signs, List.getElem?_map, Array.getElem?_toList, e1]
    rfl⟩) he)
/-! ### 23. zip, enumerate -/
theorem zip_get : ∀ {xs : List α} {ys : List β} {i : Nat} {x : α} {y : β}, xs[i]? = some x → ys[i]? = some y → (xs.zip ys)[i]? = some (x, y)
  | x :: xs, y :: ys, 0, _, _, h1, h2 => by cases h1; cases h2; rfl
  | x :: xs, y :: ys, i + 1, _, _, h1, h2 => zip_get (xs := xs) (ys := ys) (i := i) h1 h2
  | [], _, _, _, _, h1, _ => by simp at h1
  | _ :: _, [], _, _, _, _, h2 => by simp at h2
theorem zip_len {xs : List α} {ys : List β} : (xs.zip ys).length = min xs.length ys.length := List.length_zip
theorem wlk_zip {a b : Addr} {us vs : List V} {xs : List α} {ys : List β} {F : Fh} (hl : us.length ≤ sizeLine) (h : SqL K (un F) a us) (h' : SqL K (un F) b vs) (d : DpAll K (un F) us (xs.map f)) (d' : DpAll K (un F) vs (ys.map g)) :
    Wlk K (Itz K a b) ((xs.zip ys).map (t2 f g)) (fun F2 _ => ∀ a o, F a = some o → F2 a = some o) := by
  have l1 := dpa_len d
  have l2 := dpa_len d'
  rw [List.length_map] at l1 l2
  have hz : ((xs.zip ys).map (t2 f g)).length = min us.length vs.length := by rw [List.length_map, zip_len, l1, l2]
  refine ⟨by rw [hz]; omega, fun i F2 H2 z t hi => ?_, fun i F2 H2 x H3 z t hi y => ?_, fun F2 H2 z t => ?_⟩
  · rw [hz] at hi
    exact ⟨us, vs, us[i]'(by omega), vs[i]'(by omega), sql_un z (sql_mono (un_sub t) h), sql_un z (sql_mono (un_sub t) h'), List.getElem?_eq_getElem _, List.getElem?_eq_getElem _⟩
  · rw [hz] at hi
    obtain ⟨T, u, v, rfl, hT, rfl, y1, y2⟩ := y
    have e1 := y1 us (sql_un z (sql_mono (un_sub t) h))
    have e2 := y2 vs (sql_un z (sql_mono (un_sub t) h'))
    obtain ⟨d1, e3, q1⟩ := dpa_get' d e1
    obtain ⟨d2, e4, q2⟩ := dpa_get' d' e2
    have G := Grow.new (o := .tup [u, v]) z hT
    refine ⟨_, .tuple [d1, d2], G, ?_, .tup (.inl (.inl (un_iff.mpr updF_same))) (.cons (dp_mono G.un (dp_mono (un_sub t) q1)) (.cons (dp_mono G.un (dp_mono (un_sub t) q2)) .nil))⟩
    rw [List.getElem?_map] at e3 e4 ⊢
    cases hx : xs[i]? with
    | none => rw [hx] at e3; cases e3
    | some x =>
      cases hy : ys[i]? with
      | none => rw [hy] at e4; cases e4
      | some y =>
        rw [hx] at e3
        rw [hy] at e4
        cases e3; cases e4
        rw [zip_get hx hy]; rfl
  · rw [hz]
    exact ⟨us, vs, sql_un z (sql_mono (un_sub t) h), sql_un z (sql_mono (un_sub t) h'), by omega⟩
theorem wlk_zipT {a b : Addr} {us vs : List V} {xs : List α} {ys : List β} {F : Fh} (hl : us.length ≤ sizeLine) (h : SqT K (un F) a us) (h' : SqT K (un F) b vs) (d : DpAll K (un F) us (xs.map f)) (d' : DpAll K (un F) vs (ys.map g)) :
    Wlk K (RZ.ItzT K a b) ((xs.zip ys).map (t2 f g)) (fun F2 _ => ∀ a o, F a = some o → F2 a = some o) := by
  have l1 := dpa_len d
  have l2 := dpa_len d'
  rw [List.length_map] at l1 l2
  have hz : ((xs.zip ys).map (t2 f g)).length = min us.length vs.length := by rw [List.length_map, zip_len, l1, l2]
  refine ⟨by rw [hz]; omega, fun i F2 H2 z t hi => ?_, fun i F2 H2 x H3 z t hi y => ?_, fun F2 H2 z t => ?_⟩
  · rw [hz] at hi
    exact ⟨us, vs, us[i]'(by omega), vs[i]'(by omega), sqt_un z (sqt_mono (un_sub t) h), sqt_un z (sqt_mono (un_sub t) h'), List.getElem?_eq_getElem _, List.getElem?_eq_getElem _⟩
  · rw [hz] at hi
    obtain ⟨T, u, v, rfl, hT, rfl, y1, y2⟩ := y
    have e1 := y1 us (sqt_un z (sqt_mono (un_sub t) h))
    have e2 := y2 vs (sqt_un z (sqt_mono (un_sub t) h'))
    obtain ⟨d1, e3, q1⟩ := dpa_get' d e1
    obtain ⟨d2, e4, q2⟩ := dpa_get' d' e2
    have G := Grow.new (o := .tup [u, v]) z hT
    refine ⟨_, .tuple [d1, d2], G, ?_, .tup (.inl (.inl (un_iff.mpr updF_same))) (.cons (dp_mono G.un (dp_mono (un_sub t) q1)) (.cons (dp_mono G.un (dp_mono (un_sub t) q2)) .nil))⟩
    rw [List.getElem?_map] at e3 e4 ⊢
    cases hx : xs[i]? with
    | none => rw [hx] at e3; cases e3
    | some x =>
      cases hy : ys[i]? with
      | none => rw [hy] at e4; cases e4
      | some y =>
        rw [hx] at e3
        rw [hy] at e4
        cases e3; cases e4
        rw [zip_get hx hy]; rfl
  · rw [hz]
    exact ⟨us, vs, sqt_un z (sqt_mono (un_sub t) h), sqt_un z (sqt_mono (un_sub t) h'), by omega⟩
theorem wpE_I {X : Cx} {e : Expr} {σ : L2.St} {H : Hp} {Q : VK} (h : wpE X e σ H (fun v H' => ∀ pins s, Inv X pins σ H' s → Q v H')) : wpE X e σ H Q := fun pins s I =>
  thn (h pins s I) fun u s' ⟨v, H', I', r, q⟩ => ⟨v, H', I', r, q pins s' I'⟩
theorem im_zipL {es : List Expr} {kk : Nat} {tpos p : Pos} {m1 : W (List α)} {m2 : W (List β)} (hg : Gl C.X "zip" := by rfl) (hm : C.X.mg "zip" = none) (h1 : EM C ρ e (lD f) m1) (h2 : EM C ρ e2 (lD g) m2) (n1 : noStar e = true := by rfl) (n2 : noStar e2 = true := by rfl) :
    IM C ρ (.Tuple es kk tpos) (.Call (.Name "zip" p) [e, e2] [] pos) (t2 f g) (m1.bd fun xs => m2.bd fun ys => .ret (xs.zip ys)) := fun H0 σ F H R Qp Ep fz s mq hq he pins s0 I => by
  refine (pi_zip hg hm (pa_cons (te := fun σ H Q => wpE C.X e σ H Q) pe_wp (pa_cons (te := fun σ H Q => wpE C.X e2 σ H Q) pe_wp pa_nil (star_of n2 _)) (star_of n1 _)) (star_of n1 _) (by rw [star_of n2]; rfl)).run pins s0 σ H R I ?_
  refine h1 H0 σ F H _ _ Ep fz s mq (fun xs qx v F1 H1 G1 d1 => wpE_I (h2 H0 σ F1 H1 _ _ Ep G1.z (s.grow G1) qx (fun ys qy u F2 H2 G2 d2 pins2 s2 I2 => ?_) fun c ec F' H' G' => he c ec F' H' (G1.trans G'))) he
  obtain ⟨a, us, rfl, k1, k2⟩ := dp_lst (dp_mono G2.un d1)
  obtain ⟨b, vs, rfl, k3, k4⟩ := dp_lst d2
  exact ⟨a, b, us, vs, rfl, sql_un G2.z k1, sql_un G2.z k3, hq _ qy _ F2 H2 (G1.trans G2) (wlk_zip (inv_len I2 (sql_un G2.z k1)) k1 k3 k2 k4)⟩
theorem im_zipT {es : List Expr} {kk : Nat} {tpos p : Pos} {m1 : W (List α)} {m2 : W (List β)} (hg : Gl C.X "zip" := by rfl) (hm : C.X.mg "zip" = none) (h1 : EM C ρ e (tD f) m1) (h2 : EM C ρ e2 (tD g) m2) (n1 : noStar e = true := by rfl) (n2 : noStar e2 = true := by rfl) :
    IM C ρ (.Tuple es kk tpos) (.Call (.Name "zip" p) [e, e2] [] pos) (t2 f g) (m1.bd fun xs => m2.bd fun ys => .ret (xs.zip ys)) := fun H0 σ F H R Qp Ep fz s mq hq he pins s0 I => by
  refine (RZ.pi_zipA hg hm (pa_cons (te := fun σ H Q => wpE C.X e σ H Q) pe_wp (pa_cons (te := fun σ H Q => wpE C.X e2 σ H Q) pe_wp pa_nil (star_of n2 _)) (star_of n1 _)) (star_of n1 _) (by rw [star_of n2]; rfl)).run pins s0 σ H R I ?_
  refine h1 H0 σ F H _ _ Ep fz s mq (fun xs qx v F1 H1 G1 d1 => wpE_I (h2 H0 σ F1 H1 _ _ Ep G1.z (s.grow G1) qx (fun ys qy u F2 H2 G2 d2 pins2 s2 I2 => ?_) fun c ec F' H' G' => he c ec F' H' (G1.trans G'))) he
  obtain ⟨a, us, rfl, k1, k2⟩ := dp_tup (dp_mono G2.un d1)
  obtain ⟨b, vs, rfl, k3, k4⟩ := dp_tup d2
  exact ⟨a, b, us, vs, rfl, .inr ⟨sqt_un G2.z k1, sqt_un G2.z k3, hq _ qy _ F2 H2 (G1.trans G2) (wlk_zipT (inv_lenT I2 (sqt_un G2.z k1)) k1 k3 k2 k4)⟩⟩
/-- enumerate of a list -/
def numb {α : Type} (xs : List α) : List (Int × α) := xs.zipIdx.map fun p => ((p.2 : Int), p.1)
theorem numb_get {xs : List α} {i : Nat} {x : α} (h : xs[i]? = some x) : (numb xs)[i]? = some ((i : Int), x) := by
  unfold numb
  rw [List.getElem?_map, List.getElem?_zipIdx, h]
  simp
theorem numb_len {xs : List α} : (numb xs).length = xs.length := by rw [numb, List.length_map, List.length_zipIdx]
theorem wlk_enum {a : Addr} {us : List V} {xs : List α} {F : Fh} (hl : us.length ≤ sizeLine) (h : SqL K (un F) a us) (d : DpAll K (un F) us (xs.map f)) :
    Wlk K (Ite K a) ((numb xs).map (t2 iD f)) (fun F2 _ => ∀ a o, F a = some o → F2 a = some o) := by
  have l1 := dpa_len d
  rw [List.length_map] at l1
  have hz : ((numb xs).map (t2 iD f)).length = us.length := by rw [List.length_map, numb_len, l1]
  refine ⟨by rw [hz]; omega, fun i F2 H2 z t hi => ?_, fun i F2 H2 x H3 z t hi y => ?_, fun F2 H2 z t => ?_⟩
  · rw [hz] at hi
    exact ⟨us, us[i], sql_un z (sql_mono (un_sub t) h), List.getElem?_eq_getElem _⟩
  · rw [hz] at hi
    obtain ⟨T, u, rfl, hT, rfl, y1⟩ := y
    have e1 := y1 us (sql_un z (sql_mono (un_sub t) h))
    obtain ⟨d1, e3, q1⟩ := dpa_get' d e1
    have G := Grow.new (o := .tup [.int (i : Nat), u]) z hT
    refine ⟨_, .tuple [.int (i : Nat), d1], G, ?_, .tup (.inl (.inl (un_iff.mpr updF_same))) (.cons (.int _) (.cons (dp_mono G.un (dp_mono (un_sub t) q1)) .nil))⟩
    rw [List.getElem?_map] at e3 ⊢
    cases hx : xs[i]? with
    | none => rw [hx] at e3; cases e3
    | some x =>
      rw [hx] at e3
      cases e3
      rw [numb_get hx]; rfl
  · rw [hz]
    exact ⟨us, sql_un z (sql_mono (un_sub t) h), Nat.le_refl _⟩
theorem im_enumL {es : List Expr} {kk : Nat} {tpos p : Pos} {m1 : W (List α)} (hg : Gl C.X "enumerate" := by rfl) (hm : C.X.mg "enumerate" = none) (h1 : EM C ρ e (lD f) m1) (n1 : noStar e = true := by rfl) :
    IM C ρ (.Tuple es kk tpos) (.Call (.Name "enumerate" p) [e] [] pos) (t2 iD f) (m1.bd fun xs => .ret (numb xs)) := fun H0 σ F H R Qp Ep fz s mq hq he pins s0 I => by
  refine (pi_enum hg hm (pa_cons (te := fun σ H Q => wpE C.X e σ H Q) pe_wp pa_nil (star_of n1 _)) (by rw [star_of n1]; rfl)).run pins s0 σ H R I ?_
  refine wpE_I (h1 H0 σ F H _ _ Ep fz s mq (fun xs qx v F1 H1 G1 d1 pins2 s2 I2 => ?_) he)
  obtain ⟨a, us, rfl, k1, k2⟩ := dp_lst d1
  exact ⟨a, us, rfl, sql_un G1.z k1, hq _ qx _ F1 H1 G1 (wlk_enum (inv_len I2 (sql_un G1.z k1)) k1 k2)⟩
theorem em_sliceT {lo hi : Option Expr} {p2 : Pos} {ma : W (List α)} {ml mh : W (Option Int)} (h : EM C ρ e (tD f) ma) (hl : OM C ρ lo ml) (hh : OM C ρ hi mh) : EM C ρ (.Subscript e (.Slice lo hi none p2) pos) (tD f) (ma.bd fun x => ml.bd fun l => mh.bd fun u => .ret (cutL x l u)) :=
  em_slice sl_tupA h hl hh fun x l u v F H Q Qp Ep fz d m hq => by
    obtain ⟨a, us, rfl, h1, h2⟩ := dp_tup d
    have hc := cut_dpa h2 l u
    refine ⟨a, us, rfl, sqt_un fz h1, fun hw => hq _ m _ F H (Grow.refl fz) ?_, fun hw p hp => ?_⟩
    · have e : cutV us l u = us := by
        unfold cutV
        rw [hw.1, hw.2, List.drop_zero, Nat.sub_zero, List.take_length]
      rw [e] at hc
      exact .tup h1 hc
    · have G := Grow.new (o := .tup (cutV us l u)) fz hp
      exact hq _ m _ _ _ G (.tup (.inl (.inl (un_iff.mpr updF_same))) (dpa_mono G.un hc))
/-- len of a list of one's own -/
theorem em_lenO (i : Nat) {x : Str} {xs : List α} {p p1 : Pos} (h0 : ρ[i]? = some (.ow (xs.map f))) (hN : C.X.N[i]? = some x := by rfl) (hv : Vis C.X.env.scope x := by first | exact .inl rfl | exact .inr (.inl rfl) | exact .inr (.inr rfl)) (hg : Gl C.X "len" := by rfl) (hm : C.X.mg "len" = none) (hd : (x == ("__debug__" : Str)) = false := by decide) (hcd : (x == ("__classdict__" : Str)) = false := by decide) :
    EM C ρ (.Call (.Name "len" p) [.Name x p1] [] pos) iD (.ret (xs.length : Int)) := fun H0 σ F H Q Qp Ep fz s m hq he => by
  obtain ⟨v, h1, a, vs, e1, h2, h3, h4, h5⟩ := s.at h0
  subst e1
  refine wpE_of (pe_callB call_len hg hm PySem.boot_len (pa_cons (pe_var (i := i) hN hv hd hcd) pa_nil (star_of rfl _)) (by decide) (by decide) (star_of rfl _) (by rfl)) ?_
  have hl : vs.length = xs.length := by rw [dpa_len h5, List.length_map]
  exact ⟨.ref a, h1, .ref a, vs.length, rfl, .inl ⟨vs, .inl (.inl h4), rfl⟩, by rw [hl]; exact hq _ m _ F H (Grow.refl fz) (.int _)⟩
end
end Wl
namespace Wl
open PySem PySem.Spec PyProof.Rows L2
/-! ### 24. lambdas without parameters, handed to a def that calls them -/
theorem Grow.table {F : Fh} {H : Hp} (z : Fz F H) {P c : Addr} {q : Str} {ps ps' : Array Value} (hF : F P = some (.tab q)) (hc : H c = none) (ht : TriplesOk ps'.toList)
    (ha : ∀ (pos : Pos) (cv : Value), codeAmong pos ps'.toList = some cv → codeAmong pos ps.toList = some cv ∨ cv = .ref c) (hP : H P = some (.tbl ps)) :
    Grow F H (updF F c (.obj (LamX.CodeO c q))) (upd (upd H P (.tbl ps')) c (LamX.CodeO c q)) := by
  have n := z.none hc
  have ne : ∀ {a o}, F a = some o → a ≠ c := fun {a o} h e => by rw [e, n] at h; cases h
  have t : Sub F (updF F c (.obj (LamX.CodeO c q))) := fun a o h => by rw [updF_ne (ne h)]; exact h
  have at_ : ∀ a, a ≠ P → a ≠ c → upd (upd H P (.tbl ps')) c (LamX.CodeO c q) a = H a := fun a h1 h2 => by rw [upd_ne h2, upd_ne h1]
  have nP : ∀ {a o}, F a = some o → (∀ q, o ≠ .tab q) → a ≠ P := fun {a o} h no e => by rw [e, hF] at h; exact no q (Option.some.inj h).symm
  have cs : ∀ a o, updF F c (.obj (LamX.CodeO c q)) a = some o → (a = c ∧ o = .obj (LamX.CodeO c q)) ∨ F a = some o := fun a o h => by
    by_cases e : a = c
    · rw [e, updF_same] at h; exact .inl ⟨e, (Option.some.inj h).symm⟩
    · rw [updF_ne e] at h; exact .inr h
  refine ⟨t, fun a o h e => ?_, ⟨fun a o h => ?_, fun a h => ?_, fun a q' h => ?_, fun a h => ?_⟩⟩
  · have h1 : a ≠ c := ne_of_none e hc
    have h2 : a ≠ P := fun e' => by rw [e', hF] at h; cases h
    exact ⟨by rw [at_ a h2 h1]; exact e, by rw [updF_ne h1]; exact h⟩
  · rcases cs a _ h with ⟨e1, e2⟩ | h'
    · cases e2; rw [e1]; exact upd_same
    · rw [at_ a (nP h' fun q z => by cases z) (ne h')]; exact z.obj a o h'
  · rcases cs a _ h with ⟨e1, e2⟩ | h'
    · cases e2
    · obtain ⟨x, y, k, e⟩ := z.dice a h'
      exact ⟨x, y, k, by rw [at_ a (nP h' fun q z => by cases z) (ne h')]; exact e⟩
  · rcases cs a _ h with ⟨e1, e2⟩ | h'
    · cases e2
    · obtain ⟨qs, h1, h2, h3⟩ := z.tab a q' h'
      by_cases e : a = P
      · subst e
        rw [hF] at h'
        cases h'
        rw [hP] at h1
        cases h1
        refine ⟨ps', by rw [upd_ne (ne_of_none hP hc)]; exact upd_same, ht, fun pos cv hcv => ?_⟩
        rcases ha pos cv hcv with q1 | q1
        · obtain ⟨c0, e1, e2⟩ := h3 pos cv q1
          exact ⟨c0, e1, t _ _ e2⟩
        · exact ⟨c, q1, updF_same⟩
      · refine ⟨qs, by rw [at_ a e (ne h')]; exact h1, h2, fun pos cv hcv => ?_⟩
        obtain ⟨c0, e1, e2⟩ := h3 pos cv hcv
        exact ⟨c0, e1, t _ _ e2⟩
  · rcases cs a _ h with ⟨e1, e2⟩ | h'
    · cases e2
    · obtain ⟨qs, h1, h2⟩ := z.tabg a h'
      exact ⟨qs, by rw [at_ a (nP h' fun q z => by cases z) (ne h')]; exact h1, h2⟩
/-- a closure's object -/
def CloO (q : Str) (params : Arguments) (body : Expr) (scope : Scope) (clo : List (Str × Addr)) (f c : Addr) : HO := .ext fun h => ∃ pm ctv, h.get? f = some (PySem.W.kla_obj "<lambda>" q params body scope clo pm c ctv)
section
variable {X : Cx} {pins : List (Addr × Obj)} {σ : L2.St} {H : Hp} {s : Shared}
theorem clo_ok {P : Program} {w : World} {h : Heap} {q : Str} {params : Arguments} {body : Expr} {scope : Scope} {clo : List (Str × Addr)} {f c : Addr} {pm ctv : Value} (e : h.get? f = some (PySem.W.kla_obj "<lambda>" q params body scope clo pm c ctv)) : ObjOk P w H h f (CloO q params body scope clo f c) :=
  ⟨⟨pm, ctv, e⟩, ⟨_, e⟩, fun h1 h2 ⟨pm, ctv, e⟩ st => ⟨pm, ctv, st _ e⟩⟩
theorem lam_new {F : Fh} {P cd : Addr} {params : Arguments} {body : Expr} {scope : Scope} {pos : Pos} {E : Value → Shared → Prop} {Q : Value → Shared → Prop} (I : Inv X pins σ H s) (fz : Fz F H) (hF : F P = some (.tab (X.env.qual ++ "<lambda>"))) (TB : LamX.TabB X.base X.mg cd P) (hcode : X.env.code = .ref cd)
    (hdef : defaultsOf params X.env = ([], [])) (hfree : ∀ y ∈ scope.names, y.2 = .free → ∃ c, X.env.cells.lookup y.1 = some c)
    (h : ∀ (f c : Addr) (F' : Fh) (H' : Hp) (s' : Shared), Inv X pins σ H' s' → Grow F H F' H' → F' f = some (.obj (CloO (X.env.qual ++ "<lambda>") params body scope (cloFrom X.env.cells scope.names []) f c)) → F' c = some (.obj (LamX.CodeO c (X.env.qual ++ "<lambda>"))) → Q (.ref f) s') :
    wpAny (model X.prog X.w) X.A (eval (.Lambda params body scope pos) X.env) Q E s := by
  obtain ⟨ps, hP, ht, ha⟩ := fz.tab _ _ hF
  apply PySem.W.kla_eval hdef
  have bP : s.heap.BuiltinsAt X.mg P := TB.bm.keeps I.bk
  have hPo : s.heap.get? P = some { cls := .none, data := .fields ps } := I.hok P _ hP
  -- the closure's object is laid on h1
  have fin : ∀ (c : Addr) (pm ctv : Value) (F1 : Fh) (H1 : Hp) (h1 : Heap) (tk : Nat), Inv X pins σ H1 { s with heap := h1, toks := tk } → Grow F H F1 H1 → F1 c = some (.obj (LamX.CodeO c (X.env.qual ++ "<lambda>"))) →
      Q (.ref h1.objs.size) { s with heap := h1.push (PySem.W.kla_obj "<lambda>" (X.env.qual ++ "<lambda>") params body scope (cloFrom X.env.cells scope.names []) pm c ctv), toks := tk } := fun c pm ctv F1 H1 h1 tk I1 G1 hc => by
    have at1 : (h1.push (PySem.W.kla_obj "<lambda>" (X.env.qual ++ "<lambda>") params body scope (cloFrom X.env.cells scope.names []) pm c ctv)).get? h1.objs.size = some (PySem.W.kla_obj "<lambda>" (X.env.qual ++ "<lambda>") params body scope (cloFrom X.env.cells scope.names []) pm c ctv) := Heap.get?_push_size _ rfl
    obtain ⟨nf, I2⟩ := inv_new (t' := tk) (d := h1.objs.size) (h' := h1.push (PySem.W.kla_obj "<lambda>" (X.env.qual ++ "<lambda>") params body scope (cloFrom X.env.cells scope.names []) pm c ctv)) (o := CloO (X.env.qual ++ "<lambda>") params body scope (cloFrom X.env.cells scope.names []) h1.objs.size c) I1
      (fun b u q => ⟨Nat.ne_of_lt (Heap.lt_size q), Heap.get?_push_of_some _ q⟩) (clo_ok at1)
    have G2 := Grow.new (o := CloO (X.env.qual ++ "<lambda>") params body scope (cloFrom X.env.cells scope.names []) h1.objs.size c) G1.z nf
    exact h _ c _ _ _ I2 (G1.trans G2) updF_same (G2.f _ _ hc)
  cases hcd : codeAmong pos ps.toList with
  | some cv =>
    obtain ⟨c, e, hco⟩ := ha pos cv hcd
    subst e
    exact PySem.W.kla_makeFunctionHit (mg := X.mg) (c := cd) (P := P) (ps := ps) (closure_ok hfree) I.ok.glob (I.mod.glob.keeps I.bk) hcode (TB.code.keeps I.bk) hPo ht hcd bP fun ctv h' tk hx _ =>
      fin c _ ctv F H h' tk (I.kept hx) (Grow.refl fz) hco
  | none =>
    refine PySem.W.kla_makeFunction (mg := X.mg) (c := cd) (P := P) (ps := ps) (closure_ok hfree) I.ok.glob (I.mod.glob.keeps I.bk) hcode (TB.code.keeps I.bk) hPo ht hcd TB.gP bP fun c ctv h' tk hx hge _ hrec htb => ?_
    obtain ⟨c2, oc, vs, t, e2, hoc, hd, hv⟩ := hrec
    cases e2
    have eL : (ps ++ #[rawInt pos.line, rawInt pos.col, .ref c]).toList = ps.toList ++ [rawInt pos.line, rawInt pos.col, .ref c] := by simp
    have I1 := LamX.inv_table (t' := tk) (more := #[rawInt pos.line, rawInt pos.col, .ref c]) (h' := h') I hP hx htb hge ⟨oc, vs, t, hoc, hd, hv⟩
    have G1 := Grow.table (ps' := ps ++ #[rawInt pos.line, rawInt pos.col, .ref c]) fz hF (I.hok.fresh hge) (by rw [eL]; exact PySem.TriplesOk_snoc _ _ _ _ ht) (fun p cv hcv => by
      rw [eL] at hcv
      exact LamX.among_app _ ht hcv) hP
    exact fin c _ ctv _ _ h' tk I1 G1 updF_same
end
/-- the lambda's body runs in this context -/
def Ct.lam (C : Ct) (A : Around) (outer : List Env) (s : Shared) (H : Hp) (E : XK) (scope : Scope) (f c : Addr) {k : Nat} (hr : Room k (A.deeper (LamX.lamEnv C.X scope s.heap.objs.size f c))) : Ct where
  X := LamX.lamCx C.X A outer s H E scope f c
  T := C.T
  k := k
  ca := C.ca
  Ee := E
  calm := rfl
  room := hr
  pass := passes_call (takes_of rfl rfl rfl rfl) fun _ _ _ _ h => h
  tk := takes_of rfl rfl rfl rfl
  nd := C.nd
  po := passes_of rfl
/-- x(), in the def that got the closure -/
theorem clo_act {X : Cx} {pins : List (Addr × Obj)} {σ : L2.St} {H : Hp} {s : Shared} {CXg : CXT} {Eg : XK} {Ng : List Str} {qg : Str} {sg : Scope} {g f c : Addr} {cdg : Value} {params : Arguments} {body : Expr} {scope : Scope} {k i : Nat} {a : Str} {pn : List (Addr × Obj)} {xe : Value → Shared → Prop} {Wz : WX} {E : XK} {tb : TE} {p1 p2 : Pos}
    (I : Inv X pins σ H s) (L : LamX.LamS X.env.scope scope) (hbind : ∀ (pm ctv : Value), bindArgs (PySem.W.kla_fn "<lambda>" (X.env.qual ++ "<lambda>") params body scope (cloFrom X.env.cells scope.names []) pm (.ref c) ctv) ⟨[], []⟩ = pure [])
    (tk : Takes ((cxOf CXg X.prog X.w X.K X.mg X.base Ng qg sg g cdg X.A X.stack s H Eg).tr pn xe) Wz) (hW : ∀ cls d σ' H', E cls d H' → Wz cls d σ' H') (hr : Room (k + 1) (X.A.deeper (envOfC qg sg s.heap.objs.size g cdg)))
    (hbody : ∀ (A : Around) (outer : List Env) (s : Shared) (H : Hp), Room k (A.deeper (LamX.lamEnv X scope s.heap.objs.size f c)) → PE (LamX.lamCx X A outer s H E scope f c) body tb)
    (hN : Ng[i]? = some a) (hv : Vis sg a) (hd : (a == ("__debug__" : Str)) = false) (hcd : (a == ("__classdict__" : Str)) = false) :
    PE ((cxOf CXg X.prog X.w X.K X.mg X.base Ng qg sg g cdg X.A X.stack s H Eg).tr pn xe) (.Call (.Name a p1) [] [] p2)
      (fun σZ HZ Q => σZ[i]? = some (some (.ref f)) ∧ HZ c = some (LamX.CodeO c (X.env.qual ++ "<lambda>")) ∧ HZ f = some (CloO (X.env.qual ++ "<lambda>") params body scope (cloFrom X.env.cells scope.names []) f c) ∧ tb σ HZ Q) := by
  constructor
  intro pinsZ sZ σZ HZ Q IZ ⟨hs, hc, hf, ht⟩
  apply wpAny_Call_Name_kw
  refine thn ((pe_var (pos := p1) (i := i) hN hv hd hcd).run pinsZ sZ σZ HZ (fun v H1 => v = .ref f ∧ H1 = HZ) IZ ⟨_, hs, rfl, rfl⟩) fun u s1 ⟨v, H1, I1, r1, ev, eH⟩ => ?_
  subst ev
  subst eH
  cases r1
  obtain ⟨⟨pm, ctv, at1⟩, _, _⟩ := I1.hok f _ hf
  obtain ⟨⟨oc, vs, t, hoc, hdc, hvc⟩, _, _⟩ := I1.hok c _ hc
  apply PySem.W.callWith_F0 ⟨_, _, _, _, at1⟩
  have unH : Un (frs X.stack) [] H H1 s.heap s1.heap := I1.base
  have run : codeAny (model X.prog X.w) (X.A.deeper (envOfC qg sg s.heap.objs.size g cdg)) (.call (.ref f) ⟨[], []⟩) (CR (L2.CX X.prog X.w) (envOfC qg sg s.heap.objs.size g cdg :: X.stack) X.prog X.w H1 s1 Q E) s1 := by
    apply PySem.W.kla_callFunE hr.depth at1 rfl L.co L.gen rfl ⟨c, oc, vs, t, rfl, hoc, hdc, hvc⟩
    rw [hbind pm ctv]
    apply wpAny_pure
    refine wpAny_newFunctionEnv (fun y hy => (L.own y hy).2) (fun y hy => absurd hy (by simp)) (fun h₁ hns hsb => ⟨I1.nolimit.fresh _ hsb, ?_⟩) L.kind
    show codeAny _ _ (.expr body (LamX.lamEnv X scope s1.heap.objs.size f c)) _ _
    have kp : ∀ b o, s1.heap.get? b = some o → h₁.get? b = some o := fun b o e => hsb.extBut b o (Nat.ne_of_lt (Heap.lt_size e)) (Heap.get?_push_of_some _ e)
    have J := LamX.lam_start2 (A := X.A.deeper (envOfC qg sg s.heap.objs.size g cdg)) (outer := envOfC qg sg s.heap.objs.size g cdg :: X.stack) (E := E) (f := f) (c' := c) (tk := s1.toks + ([] : List (Str × Value)).length) I L I1.env0 hr.hd unH hns kp
    apply PySem.W.kla_codeExpr
    refine wpAny_mono ((hbody _ _ s1 H1 (hr.deeper _)).run [] _ _ H1 Q J ht) (fun v s' ⟨w', H', J', rv, q⟩ => ?_) fun e s' hq => hq
    exact ⟨w', H', J'.os, J'.bare, J'.base, J'.hok, rv, q⟩
  have hx : Passes (L2.CX X.prog X.w) ((cxOf CXg X.prog X.w X.K X.mg X.base Ng qg sg g cdg X.A X.stack s H Eg).tr pn xe) E := passes_call tk hW
  apply wpAny_call
  apply codeAny_mono run
  intro r s' hq
  match r with
  | .error e => exact hx pinsZ σZ H1 s1 e s' I1 hq
  | .ok (.ret u) => exact I1.after hq
  | .ok .next => exact hq.elim
  | .ok .brk => exact hq.elim
  | .ok .cont => exact hq.elim
/-- the def that tells what its argument comes to, or the error's name -/
structure Told (K : PySem.W.Frag) (mg : Str → Option Value) (ca : Str → Addr) (x c : Str) : Prop where
  ex : ∃ (g : Addr) (a : Str) (pg : Arguments) (sg : Scope) (j : Nat) (p1 p2 p3 p4 p5 p6 p7 p8 : Pos) (dV kV doc pm cdv ct oc : Value) (an od : Option Addr) (osl : Array (Option Value)) (Ng : List Str),
    mg x = some (.ref g) ∧ PySem.W.keepIn K (.ref g) = true ∧
    K.lookup g = some ⟨oc, od, .func (PySem.W.fnOf x x pg [.Try [.Return (some (.Call (.Name a p1) [] [] p2)) p3] [.ExceptHandler (some (.Name c p4)) none [.Return (some (.Constant (.str c) j p5)) p6] p7] [] [] p8] sg dV kV doc pm an cdv ct), osl⟩ ∧ PySem.W.codeIn K cdv x = true ∧
    L2.Binds K (PySem.W.fnOf x x pg [.Try [.Return (some (.Call (.Name a p1) [] [] p2)) p3] [.ExceptHandler (some (.Name c p4)) none [.Return (some (.Constant (.str c) j p5)) p6] p7] [] [] p8] sg dV kV doc pm an cdv ct) [a] [] ∧
    FnScope Ng [a] sg ∧ Ng[0]? = some a ∧ Vis sg a ∧ (a == ("__debug__" : Str)) = false ∧ (a == ("__classdict__" : Str)) = false ∧ sg.names.lookup c = some .globalImplicit ∧ mg c = some (.ref (ca c)) ∧ (c == ("__debug__" : Str)) = false ∧
    PySem.W.exmOne K (.ref (ca c)) (.ref (ca c)) = some true ∧ ∀ f : Addr, (L2.start Ng [V.ref f])[0]? = some (some (V.ref f))
def toldW {α : Type} (c : Str) (m : W α) : W (Option α) := fun Q _ => m (fun x => Q (some x)) (fun e => e = c ∧ Q none)
section
variable {C : Ct} {ρ : List Sl} {α : Type} {f : α → PyData} {m : W α} {x c : Str} {params : Arguments} {body : Expr} {scope : Scope} {lpos p pos : Pos}
theorem told_run {k : Nat} (T : Told C.X.K C.X.mg C.ca x c) (hk : k + 2 ≤ C.k) (L : LamX.LamS C.X.env.scope scope) {fa ca' : Addr}
    (hbind : ∀ (pm ctv : Value), bindArgs (PySem.W.kla_fn "<lambda>" (C.X.env.qual ++ "<lambda>") params body scope (cloFrom C.X.env.cells scope.names []) pm (.ref ca') ctv) ⟨[], []⟩ = pure [])
    (hbody : ∀ (A : Around) (outer : List Env) (s : Shared) (H : Hp) (E : XK) (hr : Room k (A.deeper (LamX.lamEnv C.X scope s.heap.objs.size fa ca'))), EM (C.lam A outer s H E scope fa ca' hr) ρ body f m)
    {H0 : Hp} {σ : L2.St} {F : Fh} {H : Hp} {Q : VK} {Qp : Option α → Prop} (fz : Fz F H) (s : Sls C.kt H0 ρ σ F H) (mq : m (fun x => Qp (some x)) (fun e => e = c ∧ Qp none))
    (hq : ∀ x, Qp x → ∀ v F' H', Grow F H F' H' → Dp C.X.K (un F') v (eD c f x) → Q v H')
    (hf : F fa = some (.obj (CloO (C.X.env.qual ++ "<lambda>") params body scope (cloFrom C.X.env.cells scope.names []) fa ca'))) (hc : F ca' = some (.obj (LamX.CodeO ca' (C.X.env.qual ++ "<lambda>"))))
    {pins : List (Addr × Obj)} {s0 : Shared} (I : Inv C.X pins σ H s0) : ∀ g, C.X.mg x = some (.ref g) → wpAny (model C.X.prog C.X.w) C.X.A (call (.ref g) [.ref fa]) (EP C.X pins σ Q) C.X.xe s0 := by
  intro g hg
  obtain ⟨g', a, pg, sg, j, p1, p2, p3, p4, p5, p6, p7, p8, dV, kV, doc, pm, cdv, ct, oc, an, od, osl, Ng, t1, t2, t3, t4, t5, t6, t7, t8, t9, t10, t11, t12, t13, t14, t15⟩ := T.ex
  rw [hg] at t1
  cases t1
  have rc : codeAny (model C.X.prog C.X.w) C.X.A (.call (.ref g) ⟨[.ref fa], []⟩) (CR C8.CX0 C.X.stack C.X.prog C.X.w H s0 Q C8.E0) s0 := by
    refine LamX.run_ofS (k := k + 1) (N := Ng) (ps := [a]) (us := [.ref fa]) (vs := [.ref fa]) t3 t4 t6 (C.room.mono hk) I.env0 (t5 s0 [.ref fa] I.kIn rfl) (.cons rfl .nil) rfl fun hr' => ?_
    have hTT : LamX.TTold C.X.K (C.ca c) c (fun E H' Q' => H' fa = some (CloO (C.X.env.qual ++ "<lambda>") params body scope (cloFrom C.X.env.cells scope.names []) fa ca') ∧
        ∀ A outer s H2 (hr : Room k (A.deeper (LamX.lamEnv C.X scope s.heap.objs.size fa ca'))), wpE (LamX.lamCx C.X A outer s H2 E scope fa ca') body σ H' Q') H Q := by
      refine ⟨fz.obj _ _ hf, fun A outer s' H2 hr => ?_⟩
      exact hbody A outer s' H2 _ hr H0 σ F H Q _ _ fz s mq (fun y qy v F' H' G d => hq (some y) qy v F' H' G d) fun e ⟨e1, qn⟩ F' H' G => by
        subst e1
        exact ⟨true, t14, fun _ => hq none qn _ F' H' G (.str _), fun z => by cases z⟩
    obtain ⟨t', ht', hq'⟩ := LamX.told_gives (X := C.X) (Ng := Ng) (x := x) (a := a) (e := c) (q := C.X.env.qual ++ "<lambda>") (ret := c) (sg := sg) (g := g) (CS := C.ca c) (cdg := cdv) (j := j) (p1 := p1) (p2 := p2) (p3 := p3) (p4 := p4) (p5 := p5) (p6 := p6) (p7 := p7) (p8 := p8) t11 t12 t13 t15 fa ca' s0 H Q _
      (fun Wz pn xe E q1 q2 tk hW => clo_act (k := k) (i := 0) (tb := fun σ H Q => ∀ A outer s H2 (hr : Room k (A.deeper (LamX.lamEnv C.X scope s.heap.objs.size fa ca'))), wpE (LamX.lamCx C.X A outer s H2 E scope fa ca') body σ H Q) I L hbind tk hW hr' (fun A outer s H hr2 => ⟨fun pins s σ H Q I h => h _ _ _ _ hr2 pins s I⟩) t7 t8 t9 t10)
      (fz.obj _ _ hc) hTT
    exact ⟨t', ht'.nox, hq'⟩
  apply wpAny_call
  apply codeAny_mono rc
  intro r s2 hq2
  match r with
  | .error e => exact (show False from hq2).elim
  | .ok (.ret u) => exact I.after hq2
  | .ok .next => exact hq2.elim
  | .ok .brk => exact hq2.elim
  | .ok .cont => exact hq2.elim
/-- x(lambda: body) -/
theorem em_told {k : Nat} {P cd : Addr} (T : Told C.X.K C.X.mg C.ca x c) (hk : k + 2 ≤ C.k) (hg : Gl C.X x) (hT : (P, FO.tab (C.X.env.qual ++ "<lambda>")) ∈ C.T) (TB : LamX.TabB C.X.base C.X.mg cd P) (hcode : C.X.env.code = .ref cd) (L : LamX.LamS C.X.env.scope scope) (hdef : defaultsOf params C.X.env = ([], []))
    (hbind : ∀ (ca' : Addr) (pm ctv : Value), bindArgs (PySem.W.kla_fn "<lambda>" (C.X.env.qual ++ "<lambda>") params body scope (cloFrom C.X.env.cells scope.names []) pm (.ref ca') ctv) ⟨[], []⟩ = pure [])
    (hbody : ∀ (fa ca' : Addr) (A : Around) (outer : List Env) (s : Shared) (H : Hp) (E : XK) (hr : Room k (A.deeper (LamX.lamEnv C.X scope s.heap.objs.size fa ca'))), EM (C.lam A outer s H E scope fa ca' hr) ρ body f m)
    (hdb : (x == ("__debug__" : Str)) = false := by decide) : EM C ρ (.Call (.Name x p) [.Lambda params body scope lpos] [] pos) (eD c f) (toldW c m) := fun H0 σ F H Q Qp Ep fz s mq hq he pins s0 I => by
  obtain ⟨g, _, _, _, _, _, _, _, _, _, _, _, _, _, _, _, _, _, _, _, _, _, _, _, t1, t2, _⟩ := T.ex
  apply wpAny_Call_Name_kw
  refine ld_glob I hg t1 ?_ hdb
  refine PySem.W.callWith_K (h₀ := C.X.base) I.ok.mod.kin t2 ?_ (by rfl) (by rfl)
  show wpAny _ _ (spliced ((false, eval (.Lambda params body scope lpos) C.X.env) :: backTo pos (starEach [] C.X.env))) _ _ s0
  apply Calls.spliced_cons
  refine lam_new I fz (s.tb _ hT) TB hcode hdef (L.has I.ok) fun fa c' F' H' s' I' G hf hc => ?_
  apply Calls.spliced_nil
  exact ⟨I'.kIn, told_run T hk L (hbind c') (hbody fa c') G.z (s.grow G) mq (fun z qz v F2 H2 G2 d => hq z qz v F2 H2 (G.trans G2) d) hf hc I' g t1⟩
end
end Wl
namespace Wl
open PySem PySem.Spec PyProof.Rows L2
/-! ### 25. all(.. in '..' for x in a text) -/
theorem elt_in {prog : Program} {w : World} {scope : Scope} {x k : Str} {j : Nat} {p1 p2 p3 : Pos} (hk : scope.kind = .function) (hl : scope.names.lookup x = some .local) (hd : (x == ("__debug__" : Str)) = false := by decide) :
    GxR.EltP prog w scope x (.Compare (.Name x p1) [.In] [.Constant (.str k) j p2] p3) (fun c => decide (c ∈ k.cps.toList)) := by
  intro cenv A' E' c t s₂ m₂ hs hn hm
  refine wpAny_Compare1 ?_ (by with_unfolding_all rfl)
  refine wpAny_Name (wpAny_loadName_local (by rw [hs]; exact hk) (show cenv.scope.names.lookup x = some .local by rw [hs]; exact hl) hn hm ?_) hd
  apply Calls.Constant_str
  exact PyProof.Rows.in_str ⟨by rw [PySem.StrLaws.found_one], GxR.keeps_tok _ _⟩
section
variable {C : Ct} {ρ : List Sl} {α : Type} {f : α → PyData} {m : W α} {x c : Str} {pos : Pos}
theorem em_allS {cd P : Addr} {elt iter : Expr} {px p gpos : Pos} {scope : Scope} {pb : Nat → Bool} {ma : W Str} (hg : Gl C.X "all") (hm : C.X.mg "all" = none) (hb : bootBuiltins "all" = some (.builtin "all")) (hT : (P, FO.tabg) ∈ C.T) (TB : LamX.TabB C.X.base C.X.mg cd P) (hcode : C.X.env.code = .ref cd) (S : GxR.GenS C.X.env scope x)
    (hi : EM C ρ iter sD ma) (hel : GxR.EltP C.X.prog C.X.w scope x elt pb) (hs : ∀ v, genFold iter C.X.env v = pure v) :
    EM C ρ (.Call (.Name "all" p) [.GeneratorExp elt [⟨.Name x px, iter, [], 0⟩] scope gpos] [] pos) bD (ma.bd fun z => .ret (z.cps.toList.all pb)) := fun H0 σ F H Q Qp Ep fz s mq hq he =>
  wpE_of (GxR.pe_allS C.room hg hm hb ⟨TB.code, TB.bm, TB.gP⟩ hcode S pe_wp hel hs (star_of rfl _)) (hi H0 σ F H _ _ Ep fz s mq (fun z qz v F1 H1 G1 d1 => by
    have hF := (s.grow G1).tb _ hT
    refine ⟨z, dp_str d1, G1.z.tabg P hF, fun H2 ⟨t1, t2⟩ => hq _ qz _ F1 H2 (G1.trans ⟨fun _ _ q => q, fun a o h e => ?_, ?_⟩) (.bl _)⟩
    · have ne : a ≠ P := fun z => by rw [z, hF] at h; cases h
      exact ⟨by rw [t2 a ne]; exact e, h⟩
    · have ne : ∀ {a o}, F1 a = some o → o ≠ .tabg → a ≠ P := fun {a o} h no z => by rw [z, hF] at h; exact no (Option.some.inj h).symm
      refine ⟨fun a o h => by rw [t2 a (ne h fun z => by cases z)]; exact G1.z.obj a o h, fun a h => ?_, fun a q h => ?_, fun a h => ?_⟩
      · obtain ⟨x, y, k, e⟩ := G1.z.dice a h
        exact ⟨x, y, k, by rw [t2 a (ne h fun z => by cases z)]; exact e⟩
      · obtain ⟨ps, e1, e2, e3⟩ := G1.z.tab a q h
        exact ⟨ps, by rw [t2 a (ne h fun z => by cases z)]; exact e1, e2, e3⟩
      · by_cases e : a = P
        · rw [e]; exact t1
        · obtain ⟨ps, e1, e2⟩ := G1.z.tabg a h
          exact ⟨ps, by rw [t2 a e]; exact e1, e2⟩) he)
/-! ### 26. a list of lambdas, each of which must raise -/
def noFree (scope : Scope) : Bool := scope.names.all fun y => !decide (y.2 = .free)
theorem clo_nil {cells : List (Str × Addr)} : ∀ {names : List (Str × NameKind)} {acc : List (Str × Addr)}, (names.all fun y => !decide (y.2 = .free)) = true → cloFrom cells names acc = acc
  | [], _, _ => rfl
  | (n, k) :: r, acc, h => by
    rw [List.all_cons, Bool.and_eq_true] at h
    have hk : (k == NameKind.free) = false := by
      have := h.1
      cases k <;> first | rfl | (simp at this)
    unfold cloFrom
    rw [hk]
    exact clo_nil h.2
theorem free_has {X : Cx} {scope : Scope} (h : noFree scope = true) : ∀ y ∈ scope.names, y.2 = .free → ∃ c, X.env.cells.lookup y.1 = some c := fun y hy e => by
  have q := List.all_eq_true.mp h y hy
  rw [e] at q
  exact absurd q (by decide)
abbrev noArgs : Arguments := { posonlyargs := [], args := [], vararg := none, kwonlyargs := [], kw_defaults := [], kwarg := none, defaults := [] }
def CloAt (q : Str) (F : Fh) (sp : Expr × Scope) (v : V) : Prop := ∃ f c, v = .ref f ∧ F f = some (.obj (CloO q noArgs sp.1 sp.2 [] f c)) ∧ F c = some (.obj (LamX.CodeO c q))
inductive Lams : List Expr → List (Expr × Scope) → Prop
  | nil : Lams [] []
  | cons {body : Expr} {scope : Scope} {pos : Pos} {es : List Expr} {sp : List (Expr × Scope)} : noFree scope = true → Lams es sp → Lams (.Lambda noArgs body scope pos :: es) ((body, scope) :: sp)
theorem paired_get {α β : Type} {R : α → β → Prop} : ∀ {xs : List α} {ys : List β}, Paired R xs ys → ∀ {j : Nat} {y : β}, ys[j]? = some y → ∃ x ∈ xs, R x y
  | _, _, .nil, _, _, h => by cases h
  | _, _, .cons a r, 0, _, h => by cases h; exact ⟨_, List.mem_cons_self, a⟩
  | _, _, .cons a r, j + 1, _, h => by
    obtain ⟨x, h1, h2⟩ := paired_get r (j := j) h
    exact ⟨x, List.mem_cons_of_mem _ h1, h2⟩
theorem unOw : ∀ xs, Sl.un ≠ .ow xs := fun _ z => nomatch z
theorem Paired.imp' {α β : Type} {R R' : α → β → Prop} (h : ∀ a b, R a b → R' a b) : ∀ {xs : List α} {ys : List β}, Paired R xs ys → Paired R' xs ys
  | _, _, .nil => .nil
  | _, _, .cons a r => .cons (h _ _ a) (Paired.imp' h r)
theorem lams_run {cd P : Addr} (hT : (P, FO.tab (C.X.env.qual ++ "<lambda>")) ∈ C.T) (TB : LamX.TabB C.X.base C.X.mg cd P) (hcode : C.X.env.code = .ref cd) : ∀ {es : List Expr} {sp : List (Expr × Scope)}, Lams es sp → ∀ (H0 : Hp) (σ : L2.St) (F : Fh) (H : Hp) (Q : List V → Hp → Prop), Fz F H → Sls C.kt H0 ρ σ F H →
    (∀ vs F' H', Grow F H F' H' → Paired (CloAt (C.X.env.qual ++ "<lambda>") F') sp vs → Q vs H') → wpA C.X es σ H Q
  | _, _, .nil, H0, σ, F, H, Q, fz, s, hq => wpA_of pa_nil (hq [] F H (Grow.refl fz) .nil)
  | _, _, .cons (body := body) (scope := scope) (pos := pos) nf r, H0, σ, F, H, Q, fz, s, hq => wpA_of (pa_cons pe_wp pa_wp (star_of rfl _)) (fun pins s0 I => by
    refine lam_new I fz (s.tb _ hT) TB hcode (by rfl) (free_has nf) fun fa c F' H' s' I' G hf hc => ⟨.ref fa, H', I', rfl, ?_⟩
    rw [clo_nil nf] at hf
    refine lams_run hT TB hcode r H0 σ F' H' _ G.z (s.grow G) fun vs F2 H2 G2 pv => hq (.ref fa :: vs) F2 H2 (G.trans G2) (.cons ⟨fa, c, rfl, G2.f _ _ hf, G2.f _ _ hc⟩ pv))
def LamsAt (q : Str) (sp : List (Expr × Scope)) (F : Fh) (v : V) : Prop := ∃ a vs, v = .ref a ∧ F a = some (.obj (.lst vs)) ∧ Paired (CloAt q F) sp vs
theorem LamsAt.sub {q : Str} {sp : List (Expr × Scope)} {F F' : Fh} {v : V} (h : LamsAt q sp F v) (t : Sub F F') : LamsAt q sp F' v := by
  obtain ⟨a, vs, e, h1, h2⟩ := h
  exact ⟨a, vs, e, t _ _ h1, Paired.imp' (fun s v ⟨f, c, e1, e2, e3⟩ => ⟨f, c, e1, t _ _ e2, t _ _ e3⟩) h2⟩
/-- name = [lambda: .., ..] -/
theorem st_lams {R : Type} {fr : R → PyData} {cd P : Addr} {es : List Expr} {sp : List (Expr × Scope)} (i : Nat) {pos' p2 : Pos} (hT : (P, FO.tab (C.X.env.qual ++ "<lambda>")) ∈ C.T) (TB : LamX.TabB C.X.base C.X.mg cd P) (hcode : C.X.env.code = .ref cd) (hl : Lams es sp) (hz : es.length ≤ 1000) (hi : C.X.N[i]? = some x) (hx : Loc C.X.env.scope x)
    (hs : swapsWith (.List es p2) (some (.Name x pos')) pos.line C.X.env = pure false := by rfl) (hf : C.X.fn x = true ∨ C.X.env.scope.names.lookup x = some .local := by first | exact .inl rfl | exact .inr rfl) :
    S1 C ρ (.Assign [.Name x pos'] (.List es p2) pos) (fun _ : Unit => ρ.set i (.raw (LamsAt (C.X.env.qual ++ "<lambda>") sp))) fr (fun N _ _ => N ()) := fun F0 H0 σ F H D N R' Ep G s m hn hr he =>
  wpS_of (ps_set (i := i) C.nd hi hx (pe_lst pa_wp) hs hf) (lams_run hT TB hcode hl H0 σ F H _ G.z s fun vs F1 H1 G1 pv => by
    have lz : vs.length ≤ 1000 := by
      have e1 : sp.length = vs.length := Paired.length pv
      have e2 : es.length = sp.length := by
        clear hs hz m hn G s hr he pv e1
        induction hl with
        | nil => rfl
        | cons _ _ ih => exact congrArg (· + 1) ih
      omega
    refine ⟨Nat.le_of_lt (small1000 lz), fun p hp => ?_⟩
    have G2 := Grow.new (o := .lst vs) G1.z hp
    refine hn () m _ _ _ (G.trans (G1.trans G2)) (G1.trans G2).f (((s.grow G1).grow G2).set i (fun _ z => nomatch z) ⟨_, rfl, fun F3 t => ?_⟩)
    exact LamsAt.sub ⟨p, vs, rfl, updF_same, Paired.imp' (fun s v ⟨f, c, e1, e2, e3⟩ => ⟨f, c, e1, G2.f _ _ e2, G2.f _ _ e3⟩) pv⟩ t)
/-- the body runs to the error c, nowhere else -/
def Raised (C : Ct) (k : Nat) (c : Str) (sp : Expr × Scope) : Prop := LamX.lamSB ⟨.function, [], false, false, []⟩ sp.2 = true ∧ ∃ (α : Type) (f : α → PyData) (m : W α), m (fun _ => False) (fun e => e = c) ∧
  ∀ (scope : Scope) (s0 : Shared) (Hz : Hp) (cc : Addr) (cl : List (Str × Addr)) (fp : List Addr) (fa ca' : Addr) (A : Around) (outer : List Env) (s : Shared) (H : Hp) (E : XK) (hr : Room k (A.deeper (LamX.lamEnv (C.bk scope s0 Hz cc cl fp).X sp.2 s.heap.objs.size fa ca'))) (ρ : List Sl),
    EM ((C.bk scope s0 Hz cc cl fp).lam A outer s H E sp.2 fa ca' hr) ρ sp.1 f m
theorem lamS_nf {sc scope : Scope} (h : LamX.lamSB ⟨.function, [], false, false, []⟩ scope = true) (nf : noFree scope = true) : LamX.LamS sc scope := by
  have L := LamX.lamS_by h
  exact ⟨L.kind, L.co, L.gen, L.own, fun y hy e => by
    have q := List.all_eq_true.mp nf y hy
    rw [e] at q
    exact absurd q (by decide)⟩
/-- told(f), f a slot that holds such a closure -/
theorem told_name {k : Nat} {xt xf : Str} {p1 p2 : Pos} {sp : Expr × Scope} {m : W α} (T : Told C.X.K C.X.mg C.ca xt c) (hk : k + 2 ≤ C.k) (hg : Gl C.X xt) (i : Nat) (hN : C.X.N[i]? = some xf) (hv : Vis C.X.env.scope xf) (hS : LamX.lamSB ⟨.function, [], false, false, []⟩ sp.2 = true) (nf : noFree sp.2 = true)
    (hbody : ∀ (fa ca' : Addr) (A : Around) (outer : List Env) (s : Shared) (H : Hp) (E : XK) (hr : Room k (A.deeper (LamX.lamEnv C.X sp.2 s.heap.objs.size fa ca'))), EM (C.lam A outer s H E sp.2 fa ca' hr) ρ sp.1 f m)
    {H0 : Hp} {σ : L2.St} {F : Fh} {H : Hp} {Q : VK} (fz : Fz F H) (s : Sls C.kt H0 ρ σ F H) {v : V} (hσ : σ[i]? = some (some v)) (hc : CloAt (C.X.env.qual ++ "<lambda>") F sp v) (mq : m (fun _ => False) (fun e => e = c)) (hq : ∀ F' H', Grow F H F' H' → Q (.str c) H')
    (hdb : (xt == ("__debug__" : Str)) = false := by decide) (hd : (xf == ("__debug__" : Str)) = false := by decide) (hcd : (xf == ("__classdict__" : Str)) = false := by decide) : wpE C.X (.Call (.Name xt p1) [.Name xf p2] [] pos) σ H Q := fun pins s0 I => by
  obtain ⟨fa, ca', e, hf, hcc⟩ := hc
  subst e
  obtain ⟨g, _, _, _, _, _, _, _, _, _, _, _, _, _, _, _, _, _, _, _, _, _, _, _, t1, t2, _⟩ := T.ex
  apply wpAny_Call_Name_kw
  refine ld_glob I hg t1 ?_ hdb
  refine PySem.W.callWith_K (h₀ := C.X.base) I.ok.mod.kin t2 (thn ((pa_cons (pe_var (i := i) hN hv hd hcd) pa_nil (star_of rfl _)).run pos pins s0 σ H (fun vs H' => vs = [.ref fa] ∧ H' = H) I ⟨_, hσ, rfl, rfl⟩) fun us s1 ⟨vs, H1, I1, r1, e1, e2⟩ => ?_) (by rfl) (by rfl)
  subst e1
  subst e2
  refine ⟨I1.kIn, ?_⟩
  rw [Vals.ref1 r1]
  have ec : cloFrom C.X.env.cells sp.2.names [] = [] := clo_nil nf
  refine told_run (m := m) (params := noArgs) T hk (lamS_nf hS nf) (fun pm ctv => by rw [ec]; rfl) (hbody fa ca') (Qp := fun o => o = none) fz s ?_ (fun z qz v F' H' G d => ?_) (by rw [ec]; exact hf) hcc I1 g t1
  · have e : (fun x : α => some x = (none : Option α)) = fun _ => False := funext fun x => by simp
    have e' : (fun e => e = c ∧ (none : Option α) = none) = fun e => e = c := funext fun e => by simp
    show m (fun x => some x = none) (fun e => e = c ∧ none = none)
    rw [e, e']; exact mq
  · subst qz
    rw [dp_str d]
    exact hq F' H' G
/-- [1 for f in bad if told(f) != 'c']: none is left -/
theorem em_bad {k : Nat} {xt xf xb : Str} {scope : Scope} {own : List (Str × Nat)} {sp : List (Expr × Scope)} {i1 : Int} {j1 j2 : Nat} {q1 q2 q3 q4 q5 q6 q7 q8 : Pos} (ib i : Nat) (T : Told C.X.K C.X.mg C.ca xt c) (hk : k + 2 ≤ C.k) (h0 : ρ[ib]? = some (.raw (LamsAt (C.X.env.qual ++ "<lambda>") sp))) (hN : C.X.N[ib]? = some xb) (hv : Vis C.X.env.scope xb)
    (ok : BlkOk C.X.N C.X.env.scope scope own) (hi : i ∈ own.map (·.2)) (hil : i < ρ.length) (hNf : C.X.N[i]? = some xf) (hl : ∀ cl cc, Loc (compEnvC scope cl cc C.X.env).scope xf) (hff : (scope.names.lookup xf == some .cell) = true ∨ ∀ cl cc, (compEnvC scope cl cc C.X.env).scope.names.lookup xf = some .local)
    (hgt : ∀ s0 Hz cc cl fp, Gl (C.bk scope s0 Hz cc cl fp).X xt) (hsp : ∀ s ∈ sp, noFree s.2 = true ∧ Raised C k c s)
    (hdt : (xt == ("__debug__" : Str)) = false := by decide) (hd : (xf == ("__debug__" : Str)) = false := by decide) (hcd : (xf == ("__classdict__" : Str)) = false := by decide) (hd2 : (xb == ("__debug__" : Str)) = false := by decide) (hcd2 : (xb == ("__classdict__" : Str)) = false := by decide) :
    EM C ρ (.ListComp (.Constant (.int i1) j1 q1) [⟨.Name xf q2, .Name xb q3, [.Compare (.Call (.Name xt q4) [.Name xf q5] [] q6) [.NotEq] [.Constant (.str c) j2 q7] q8], 0⟩] scope pos) (lD iD) (.ret []) := fun H0 σ F H Q Qp Ep fz s mq hq he => by
  obtain ⟨v, hσ, u, eu, hφ⟩ := s.at h0
  subst eu
  obtain ⟨a, vs, rfl, ha, hp⟩ := hφ F fun _ _ z => z
  refine wpE_of (pe_lc (tt := wpTb C.X scope (.Compare (.Call (.Name xt q4) [.Name xf q5] [] q6) [.NotEq] [.Constant (.str c) j2 q7] q8)) (te := tC (.int i1)) (g := gName i) C.calm C.nd (pi_list (pe_var (i := ib) hN hv hd2 hcd2)) ok
    (fun s0 Hz cc cl fp => pg_name (X := (C.bk scope s0 Hz cc cl fp).X) (i := i) C.nd hNf (hl cl cc) (hff.imp id fun z => z cl cc)) (fun s0 Hz cc cl fp => pts_one ⟨fun pins s σ H Q I h => h s0 Hz cc cl fp pins s I⟩) (fun s0 Hz cc cl fp => pe_int)) ?_
  refine ⟨.ref a, hσ, a, rfl, ⟨vs, .inl (.inl (fz.obj a _ ha))⟩, fun D hD => ?_⟩
  have nD := fz.none hD
  refine lc_list (K := C.X.K) (a := a) (xs := vs) (fun _ H' => ∃ F', Grow F H F' H' ∧ F' D = none ∧ H' D = some (.lst [])) ⟨F, Grow.lay fz hD, nD, upd_same⟩ (fun j H' _ ⟨F', G, _, _⟩ => .inl (.inl (G.z.obj a _ (G.f _ _ ha)))) (fun j x H' hx ⟨F', G, n, e⟩ => ?_) fun H' ⟨F', G, n, e⟩ => ?_
  · have hw : wipe ((wipe σ (own.map (·.2))).set i (some x)) (own.map (·.2)) = wipe σ (own.map (·.2)) := (wipe_set _ i _ hi).trans (wipe_wipe _ _)
    refine ⟨hw, fun s0 Hz cc cl fp => ?_⟩
    obtain ⟨spj, hm, hc⟩ := paired_get hp hx
    obtain ⟨nf, hS, α, f, m, mq', hb⟩ := hsp spj hm
    have hc2 : CloAt (C.X.env.qual ++ "<lambda>") F' spj x := by
      obtain ⟨f1, c1, e1, e2, e3⟩ := hc
      exact ⟨f1, c1, e1, G.f _ _ e2, G.f _ _ e3⟩
    have sw : Sls C.kt H0 ((wipeR ρ (own.map (·.2))).set i .un) ((wipe σ (own.map (·.2))).set i (some x)) F' H' := ((s.grow G).wipe (own.map (·.2))).set i unOw trivial
    have hli : i < (wipe σ (own.map (·.2))).length := by rw [wipe_len, ← s.len]; exact hil
    refine wpT_of (pt_cmpR op_ne pe_wp pe_str (nomark _)) ?_
    refine told_name (C := C.bk scope s0 Hz cc cl fp) (f := f) (m := m) T hk (hgt s0 Hz cc cl fp) i hNf (by rcases hl cl cc with q | q; exact .inl q; exact .inr (.inl q)) hS nf (fun fa ca' A outer s H E hr => hb scope s0 Hz cc cl fp fa ca' A outer s H E hr _) G.z sw (v := x) (List.getElem?_set_self hli) hc2 mq' (fun F2 H2 G2 => ?_) hdt hd hcd
    obtain ⟨k1, k2⟩ := G2.k D _ n e
    exact ⟨rfl, false, by rw [decide_eq_true rfl]; rfl, F2, G.trans G2, k2, k1⟩
  · exact hq [] mq _ _ _ (G.freeze n hD e) (.lst (.inl (.inl (un_iff.mpr updF_same))) .nil)
end
end Wl
namespace Wl
open PySem PySem.Spec PyProof.Rows L2
/-! ### 26. what the printed derivations lean on -/
def W.let {α : Type} (x : α) (k : α → Prop) : Prop := k x
section
variable {C : Ct} {ρ : List Sl} {tg iter e c o elt : Expr} {es : List Expr} {sts rest A B : List Stmt} {st : Stmt} {α β γ δ S S' T R : Type} {f : α → PyData} {fb : β → PyData} {fc : γ → PyData} {fr : R → PyData} {m : W (List α)} {ma : W α} {mb : W β} {mc : W Bool} {pos : Pos} {g : S → List Sl} {g' : T → List Sl}
/-- the end of a block: the state is t -/
theorem ss_done (t : T) (hw : Wk ρ (g' t)) : SM C ρ [] g' fr (fun N _ _ => N t) := ss_map (k := fun _ => t) ss_nil fun _ => hw
def M.whl {S R : Type} (c : S → W Bool) (b : S → M S R) (s : S) : M S R := fun N R' E => ∃ n, M.while c b n s N R' E
theorem st_whl {mc : S → W Bool} {mb : S → M S R} (s0 : S) (hw : Wk ρ (g s0)) (hc : ∀ s, TM C (g s) c (mc s)) (hb : ∀ s, SM C (g s) B g fr (mb s)) : S1 C ρ (.While c B [] pos) g fr (M.whl mc mb s0) := fun F0 H0 σ F H D N R' Ep G s ⟨n, mq⟩ hn hr he =>
  st_while s0 n hw hc hb F0 H0 σ F H D N R' Ep G s mq hn hr he
/-- the error's name as what is told -/
theorem em_strE {c : Str} {j : Nat} : EM C ρ (.Constant (.str c) j pos) (eD c f) (.ret none) := fun H0 σ F H Q Qp Ep fz s m hq he => wpE_of pe_str (hq none m _ F H (Grow.refl fz) (.str c))
/-- a class of errors of the program's own, raised with a text -/
structure Rz (K : PySem.W.Frag) (mg : Str → Option Value) (ca : Str → Addr) (x : Str) : Prop where
  ex : ∃ (Bb newId initId : String) (bmB : List Value), ExcBaseFacts Bb newId initId bmB ∧ PySem.W.excIn K (ca x) bmB newId = true ∧ mg x = some (.ref (ca x)) ∧ PySem.W.keepIn K (.ref (ca x)) = true ∧
    PySem.W.subIn K (.ref (ca x)) (.type "BaseException") = some true ∧ PySem.W.typeIn K (.ref (ca x)) = some (.type "type")
theorem st_raise' {x msg : Str} {j : Nat} {p p2 p3 : Pos} (h : Rz C.X.K C.X.mg C.ca x) (hg : Gl C.X x := by rfl) (hdb : (x == ("__debug__" : Str)) = false := by decide) :
    S1 C ρ (.Raise (some (.Call (.Name x p) [.Constant (.str msg) j p2] [] p3)) none pos) (fun z : Empty => ([] : List Sl)) fr (fun _ _ E => E x) := by
  obtain ⟨Bb, n1, n2, bm, h1, h2, h3, h4, h5, h6⟩ := h.ex
  exact st_raise h1 h2 h3 h4 (raises_own h5 h6) (hg := hg) (hca := rfl) (hdb := hdb)
theorem stp_pass (hx : ρ = ρ) : S1 C ρ (.Pass pos) (fun _ : Unit => ρ) fr (fun N _ _ => N ()) := fun F0 H0 σ F H D N R' Ep G s m hn hr he =>
  wpS_of ps_pass (hn () m σ F H G (fun _ _ z => z) s)
end
end Wl
namespace Wl
open PySem PySem.Spec PyProof.Rows L2
abbrev absI (x : Int) : Int := if x < 0 then -x else x
abbrev maxI (x y : Int) : Int := if y > x then y else x
abbrev minI (x y : Int) : Int := if y < x then y else x
abbrev b2z (b : Bool) : Int := if b then 1 else 0
abbrev startsW (a b : Str) : W Bool := .ret (Txt.startswith a b)
/-! ### 27. equality of data that hold texts -/
section
variable {K : PySem.W.Frag} {X : Cx} {α β γ : Type} {f : α → PyData} {g : β → PyData} {h : γ → PyData}
structure Eqx [DecidableEq α] (f : α → PyData) (n : Nat) (ok : α → Prop) : Prop where
  eq : ∀ x y, PyData.eqv (f x) (f y) = decide (x = y)
  can : ∀ x, ok x → (f x).canLay0 = true
  dep : ∀ x, (f x).depth ≤ n
theorem Eqx.sh [DecidableEq α] {n : Nat} {ok : α → Prop} (h : Eqx f n ok) (hn : n ≤ 64) {x : α} (hx : ok x) : SeqAt.shaped (f x) = true := by
  unfold SeqAt.shaped
  rw [h.can x hx, Bool.true_and]
  exact decide_eq_true (Nat.le_trans (h.dep x) hn)
abbrev ok0 {α : Type} : α → Prop := fun _ => True
def okS : Str → Prop := fun x => PyData.strOk x = true
def ok2 {α β : Type} (p : α → Prop) (q : β → Prop) : α × β → Prop := fun x => p x.1 ∧ q x.2
def ok3 {α β γ : Type} (p : α → Prop) (q : β → Prop) (r : γ → Prop) : α × β × γ → Prop := fun x => p x.1 ∧ q x.2.1 ∧ r x.2.2
def okL {α : Type} (p : α → Prop) : List α → Prop := fun xs => ∀ x ∈ xs, p x
def okE {α : Type} (p : α → Prop) : Option α → Prop := fun z => ∀ x, z = some x → p x
theorem eqx_of [DecidableEq α] {n : Nat} (h : Eqf f n) : Eqx f n ok0 := ⟨h.eq, fun x _ => h.can x, h.dep⟩
theorem eqx_int : Eqx iD 0 ok0 := eqx_of eqf_int
theorem eqx_bl : Eqx bD 0 ok0 := eqx_of eqf_bl
theorem eqx_s : Eqx sD 0 okS := ⟨fun x y => by
  show (x == y) = decide (x = y)
  by_cases e : x = y
  · subst e; simp
  · rw [decide_eq_false e]; exact beq_eq_false_iff_ne.mpr e, fun x h => h, fun _ => Nat.le_refl _⟩
theorem eqf_t3 [DecidableEq α] [DecidableEq β] [DecidableEq γ] {n k l : Nat} (hf : Eqf f n) (hg : Eqf g k) (hh : Eqf h l) : Eqf (t3 f g h) (max n (max k l) + 1) := ⟨fun ⟨a, b, c⟩ ⟨d, e, j⟩ => by
  show (PyData.eqv (f a) (f d) && (PyData.eqv (g b) (g e) && (PyData.eqv (h c) (h j) && true))) = _
  rw [hf.eq, hg.eq, hh.eq, Bool.and_true, dec_and, dec_and]
  exact dec_iff (by rw [Prod.mk.injEq, Prod.mk.injEq]), fun ⟨a, b, c⟩ => by
  show ((f a).canLay0 && ((g b).canLay0 && ((h c).canLay0 && true))) = true
  rw [hf.can, hg.can, hh.can]; rfl, fun ⟨a, b, c⟩ => by
  show max (f a).depth (max (g b).depth (max (h c).depth 0)) + 1 ≤ _
  have h1 := hf.dep a
  have h2 := hg.dep b
  have h3 := hh.dep c
  omega⟩
theorem eqx_t2 [DecidableEq α] [DecidableEq β] {n k : Nat} {p : α → Prop} {q : β → Prop} (hf : Eqx f n p) (hg : Eqx g k q) : Eqx (t2 f g) (max n k + 1) (ok2 p q) := ⟨fun ⟨a, b⟩ ⟨c, d⟩ => by
  show (PyData.eqv (f a) (f c) && (PyData.eqv (g b) (g d) && true)) = _
  rw [hf.eq, hg.eq, Bool.and_true, dec_and]
  exact dec_iff (by rw [Prod.mk.injEq]), fun ⟨a, b⟩ ⟨h1, h2⟩ => by
  show ((f a).canLay0 && ((g b).canLay0 && true)) = true
  rw [hf.can a h1, hg.can b h2]; rfl, fun ⟨a, b⟩ => by
  show max (f a).depth (max (g b).depth 0) + 1 ≤ _
  have h1 := hf.dep a
  have h2 := hg.dep b
  omega⟩
theorem eqx_t3 [DecidableEq α] [DecidableEq β] [DecidableEq γ] {n k l : Nat} {p : α → Prop} {q : β → Prop} {r : γ → Prop} (hf : Eqx f n p) (hg : Eqx g k q) (hh : Eqx h l r) : Eqx (t3 f g h) (max n (max k l) + 1) (ok3 p q r) := ⟨fun ⟨a, b, c⟩ ⟨d, e, j⟩ => by
  show (PyData.eqv (f a) (f d) && (PyData.eqv (g b) (g e) && (PyData.eqv (h c) (h j) && true))) = _
  rw [hf.eq, hg.eq, hh.eq, Bool.and_true, dec_and, dec_and]
  exact dec_iff (by rw [Prod.mk.injEq, Prod.mk.injEq]), fun ⟨a, b, c⟩ ⟨h1, h2, h3⟩ => by
  show ((f a).canLay0 && ((g b).canLay0 && ((h c).canLay0 && true))) = true
  rw [hf.can a h1, hg.can b h2, hh.can c h3]; rfl, fun ⟨a, b, c⟩ => by
  show max (f a).depth (max (g b).depth (max (h c).depth 0)) + 1 ≤ _
  have h1 := hf.dep a
  have h2 := hg.dep b
  have h3 := hh.dep c
  omega⟩
theorem eqvx_all [DecidableEq α] {n : Nat} {p : α → Prop} (hf : Eqx f n p) : ∀ xs ys : List α, PyData.eqvAll (xs.map f) (ys.map f) = decide (xs = ys)
  | [], [] => rfl
  | [], _ :: _ => rfl
  | _ :: _, [] => rfl
  | x :: xs, y :: ys => by
    show (PyData.eqv (f x) (f y) && PyData.eqvAll (xs.map f) (ys.map f)) = _
    rw [hf.eq, eqvx_all hf xs ys, dec_and]
    exact dec_iff (by rw [List.cons.injEq])
theorem canx_all [DecidableEq α] {n : Nat} {p : α → Prop} (hf : Eqx f n p) : ∀ xs : List α, (∀ x ∈ xs, p x) → PyData.canLayAll0 (xs.map f) = true
  | [], _ => rfl
  | x :: xs, h => by
    show ((f x).canLay0 && PyData.canLayAll0 (xs.map f)) = true
    rw [hf.can x (h x List.mem_cons_self), canx_all hf xs fun y hy => h y (List.mem_cons_of_mem _ hy)]; rfl
theorem depx_all [DecidableEq α] {n : Nat} {p : α → Prop} (hf : Eqx f n p) : ∀ xs : List α, PyData.depthAll (xs.map f) ≤ n
  | [] => Nat.zero_le _
  | x :: xs => by
    show max (f x).depth (PyData.depthAll (xs.map f)) ≤ n
    have h1 := hf.dep x
    have h2 := depx_all hf xs
    omega
theorem eqx_l [DecidableEq α] {n : Nat} {p : α → Prop} (hf : Eqx f n p) : Eqx (lD f) (n + 1) (okL p) := ⟨fun x y => eqvx_all hf x y, fun x h => canx_all hf x h, fun x => Nat.succ_le_succ (depx_all hf x)⟩
theorem eqx_t [DecidableEq α] {n : Nat} {p : α → Prop} (hf : Eqx f n p) : Eqx (tD f) (n + 1) (okL p) := ⟨fun x y => eqvx_all hf x y, fun x h => canx_all hf x h, fun x => Nat.succ_le_succ (depx_all hf x)⟩
theorem eqx_e [DecidableEq α] {n : Nat} {p : α → Prop} (c : Str) (hc : PyData.strOk c = true) (hf : Eqx f n p) (h1 : ∀ x, PyData.eqv (.str c) (f x) = false) (h2 : ∀ x, PyData.eqv (f x) (.str c) = false) : Eqx (eD c f) n (okE p) := ⟨fun x y => by
  cases x with
  | none =>
    cases y with
    | none =>
      show (c == c) = decide ((none : Option α) = none)
      simp
    | some y =>
      show PyData.eqv (.str c) (f y) = _
      rw [h1]; simp
  | some x =>
    cases y with
    | none =>
      show PyData.eqv (f x) (.str c) = _
      rw [h2]; simp
    | some y =>
      show PyData.eqv (f x) (f y) = _
      rw [hf.eq]
      exact dec_iff (by simp), fun x h => by
  cases x with
  | none => exact hc
  | some x => exact hf.can x (h x rfl), fun x => by
  cases x with
  | none => exact Nat.zero_le _
  | some x => exact hf.dep x⟩
def eqXW [DecidableEq α] (ok : α → Prop) (x y : α) : W Bool := .need (ok x ∧ ok y) (.ret (decide (x = y)))
def neXW [DecidableEq α] (ok : α → Prop) (x y : α) : W Bool := .need (ok x ∧ ok y) (.ret (!decide (x = y)))
theorem o_eqX [DecidableEq α] {n : Nat} {ok : α → Prop} (h : Eqx f n ok) (hn : n ≤ 64 := by decide) : Opn K (rEqD K) f f bD (eqXW ok) := Opn.of fun x y vx vy F H Q Qp Ep hu dx dy m hq =>
  ⟨f x, f y, dp_mono hu dx, dp_mono hu dy, h.sh hn m.1.1, h.sh hn m.1.2, hq _ m.2 _ fun U => by rw [h.eq]; exact .bl _⟩
theorem o_neX [DecidableEq α] {n : Nat} {ok : α → Prop} (h : Eqx f n ok) (hn : n ≤ 64 := by decide) : Opn K (rNeD K) f f bD (neXW ok) := Opn.of fun x y vx vy F H Q Qp Ep hu dx dy m hq =>
  ⟨f x, f y, dp_mono hu dx, dp_mono hu dy, h.sh hn m.1.1, h.sh hn m.1.2, hq _ m.2 _ fun U => by rw [h.eq]; exact .bl _⟩
def inXW [DecidableEq α] (ok : α → Prop) (x : α) (ys : List α) : W Bool := .need (ok x ∧ okL ok ys) (.ret (decide (x ∈ ys)))
def ninXW [DecidableEq α] (ok : α → Prop) (x : α) (ys : List α) : W Bool := .need (ok x ∧ okL ok ys) (.ret (!decide (x ∈ ys)))
theorem any_eqv [DecidableEq α] {n : Nat} {ok : α → Prop} (h : Eqx f n ok) (x : α) : ∀ ys : List α, ((ys.map f).any fun z => PyData.eqv z (f x)) = decide (x ∈ ys)
  | [] => by simp
  | y :: ys => by
    rw [List.map_cons, List.any_cons, any_eqv h x ys, h.eq]
    by_cases e : y = x
    · subst e; simp
    · have e' : ¬ x = y := fun z => e z.symm
      simp [e, e']
theorem o_inL [DecidableEq α] {n : Nat} {ok : α → Prop} (h : Eqx f n ok) (hn : n + 1 ≤ 64 := by decide) : Opn K (rInD K) f (lD f) bD (inXW ok) := Opn.of fun x y vx vy F H Q Qp Ep hu dx dy m hq =>
  ⟨f x, y.map f, dp_mono hu dx, dp_mono hu dy, h.sh (by omega) m.1.1, (eqx_l h).sh hn m.1.2, hq _ m.2 _ fun U => by rw [any_eqv h]; exact .bl _⟩
theorem o_ninL [DecidableEq α] {n : Nat} {ok : α → Prop} (h : Eqx f n ok) (hn : n + 1 ≤ 64 := by decide) : Opn K (rNotInD K) f (lD f) bD (ninXW ok) := Opn.of fun x y vx vy F H Q Qp Ep hu dx dy m hq =>
  ⟨f x, y.map f, dp_mono hu dx, dp_mono hu dy, h.sh (by omega) m.1.1, (eqx_l h).sh hn m.1.2, hq _ m.2 _ fun U => by rw [any_eqv h]; exact .bl _⟩
theorem hu_ct5 (C : Ct) : C.X.A.units + 65 < cLine := by
  have := C.room.un
  have e : cLine = cLine := rfl
  omega
end
/-! ### 28. the rolls of a law's dice: any whole number below many -/
def w_law_roll (many : Int) : W Int := fun Q _ => 0 < many ∧ many ≤ 100000000 ∧ ∀ r : Int, 0 ≤ r → r < many → Q r
abbrev sg_law_roll : Sg := Sg.mk (A := Int) (R := Int) (fun a => [.dice, .d (iD a)]) iD w_law_roll
end Wl
namespace Wl
open PySem PySem.Spec PyProof.Rows L2
theorem bt_abs : bootBuiltins "abs" = some (.builtin "abs") := by decide +kernel
theorem bt_max : bootBuiltins "max" = some (.builtin "max") := by decide +kernel
theorem bt_min : bootBuiltins "min" = some (.builtin "min") := by decide +kernel
theorem bt_len : bootBuiltins "len" = some (.builtin "len") := by decide +kernel
theorem bt_sum : bootBuiltins "sum" = some (.builtin "sum") := by decide +kernel
theorem bt_all : bootBuiltins "all" = some (.builtin "all") := by decide +kernel
theorem bt_any : bootBuiltins "any" = some (.builtin "any") := by decide +kernel
theorem bt_sorted : bootBuiltins "sorted" = some (.builtin "sorted") := by decide +kernel
theorem bt_int : bootBuiltins "int" = some (.type "int") := by decide +kernel
theorem bt_str : bootBuiltins "str" = some (.type "str") := by decide +kernel
theorem bt_tuple : bootBuiltins "tuple" = some (.type "tuple") := by decide +kernel
theorem bt_list : bootBuiltins "list" = some (.type "list") := by decide +kernel
/-! ### 29. a def by its body, where its code object is known -/
section
variable {P : Program} {w : World} {K : PySem.W.Frag} {mg : Str → Option Value} {base : Heap} {ca : Str → Addr} {T : List (Addr × FO)} {S : Type}
theorem FunD.okC {x qual : Str} {params : Arguments} {body : List Stmt} {scope : Scope} {dvs : List V} {kws : List (Str × V)} {p : Str × Option Str} {fd : FuncData} {CX : CXT} {N ps : List Str} {k : Nat} {sp : Sp} (F : FunD K x qual params body scope dvs kws (He.fAd K p) fd) (S : FnScope N ps scope) (len : ∀ vs H Q E, sp vs H Q E → vs.length = ps.length)
    (hbody : ∀ (A : Around) (outer : List Env) (s : Shared) (H : Hp) (vs : List V) (Q : VK) (E : XK), Room k (A.deeper (envOfC qual scope s.heap.objs.size (He.fAd K p) (.ref (He.codeOf K p)))) → sp vs H Q E →
      ∃ t, PSs (cxOf CX P w K mg base N qual scope (He.fAd K p) (.ref (He.codeOf K p)) A outer s H E) body t ∧ t { nx := fun _ H' => Q .non H', rt := Q } (L2.start N vs) H) : FnOk P w K mg base CX (k + 1) (He.fAd K p) fd ps sp := by
  obtain ⟨oc, od, dV, kV, doc, pm, an, cdv, ct, osl, rfl, lk, hcd, _, _⟩ := F.ex
  obtain ⟨c, rfl⟩ := He.codeIn_ref hcd
  have e : He.codeOf K p = c := He.codeOf_eq lk rfl
  subst e
  exact fn_of lk hcd S len fun A outer s H vs Q E hr hsp => hbody A outer s H vs Q E hr hsp
theorem fn_mkC {x qual : Str} {params : Arguments} {body : List Stmt} {scope : Scope} {dvs : List V} {kws : List (Str × V)} {p : Str × Option Str} {fd : FuncData} {N ps : List Str} {k : Nat} (Z : Sg) {mb : Z.A → M S Z.R} {g : S → List Sl} (F : FunD K x qual params body scope dvs kws (He.fAd K p) fd) (Sc : FnScope N ps scope) (hl : ∀ a, (Z.ar a).length = ps.length)
    (hm : ∀ a Q E, Z.m a Q E → mb a (fun _ => False) Q E)
    (hb : ∀ (A : Around) (outer : List Env) (s : Shared) (H : Hp) (E : XK) (hr : Room k (A.deeper (envOfC qual scope s.heap.objs.size (He.fAd K p) (.ref (He.codeOf K p))))) (z : Z.A),
      SM (ctD (P := P) (w := w) (K := K) (mg := mg) (base := base) ca T qual Sc (He.fAd K p) (.ref (He.codeOf K p)) A outer s H E hr) (Z.ar z ++ List.replicate (N.length - ps.length) .un) body g Z.fr (mb z)) : FnOk P w K mg base (L2.CX P w) (k + 1) (He.fAd K p) fd ps (Z.sp K ca T) := by
  refine FunD.okC F Sc (fun vs H Q E h => ?_) (fun A outer s H vs Q E hr h => ⟨_, pb_wp, ?_⟩)
  · obtain ⟨F, z, _, _, _, _, h2, _⟩ := h
    rw [← Paired.length h2]; exact hl z
  · obtain ⟨F, z, Qp, Ep, fz, tb, h2, h3, h4, h5⟩ := h
    have hv : vs.length = ps.length := by rw [← Paired.length h2]; exact hl z
    have st := sls_start (H := H) (H0 := H) tb h2 N.length
    rw [hv] at st
    exact hb A outer s H E hr z F H (L2.start N vs) F H _ (fun _ => False) Qp Ep (Grow.refl fz) (by unfold L2.start; rw [hv]; exact st) (hm z _ _ h3) (fun _ z => z.elim) (fun r qr v F' H' G d => h4 r qr v F' H' G d) fun c ec F' H' G => h5 c ec F' H' G
end
section
variable {C : Ct} {ρ : List Sl} {tg iter e c o elt : Expr} {es : List Expr} {sts rest A B : List Stmt} {st : Stmt} {α β γ δ S S' T R : Type} {f : α → PyData} {fb : β → PyData} {fc : γ → PyData} {fr : R → PyData} {m : W (List α)} {ma : W α} {mb : W β} {mc : W Bool} {pos : Pos} {g : S → List Sl} {g' : T → List Sl}
/-- what is never come to -/
theorem ss_none : SM C ρ sts g' fr (fun _ _ _ => False) := fun F0 H0 σ F H D N R' Ep G s m => m.elim
/-! ### 30. dice: a list of three ints that is written -/
theorem Grow.newD {F : Fh} {H : Hp} (z : Fz F H) {p : Addr} {i j k : Int} (hp : H p = none) : Grow F H (updF F p .dice) (upd H p (.lst [.int i, .int j, .int k])) := by
  have n := z.none hp
  have ne : ∀ {a q}, F a = some q → a ≠ p := fun {a q} h e => by rw [e, n] at h; cases h
  have t : Sub F (updF F p .dice) := fun a q h => by rw [updF_ne (ne h)]; exact h
  have at_ : ∀ a, a ≠ p → upd H p (.lst [.int i, .int j, .int k]) a = H a := fun a h => upd_ne h
  have cs : ∀ a o, updF F p .dice a = some o → (a = p ∧ o = .dice) ∨ (a ≠ p ∧ F a = some o) := fun a o h => by
    by_cases e : a = p
    · rw [e, updF_same] at h; exact .inl ⟨e, (Option.some.inj h).symm⟩
    · rw [updF_ne e] at h; exact .inr ⟨e, h⟩
  refine ⟨t, fun a q h e => ?_, ⟨fun a o h => ?_, fun a h => ?_, fun a q' h => ?_, fun a h => ?_⟩⟩
  · have ne : a ≠ p := fun e' => by rw [e', hp] at e; cases e
    rw [upd_ne ne, updF_ne ne]; exact ⟨e, h⟩
  · rcases cs a _ h with ⟨e1, e2⟩ | ⟨e1, h'⟩
    · cases e2
    · rw [at_ a e1]; exact z.obj a o h'
  · rcases cs a _ h with ⟨e1, e2⟩ | ⟨e1, h'⟩
    · rw [e1]; exact ⟨i, j, k, upd_same⟩
    · rw [at_ a e1]; exact z.dice a h'
  · rcases cs a _ h with ⟨e1, e2⟩ | ⟨e1, h'⟩
    · cases e2
    · obtain ⟨ps, h1, h2, h3⟩ := z.tab a q' h'
      exact ⟨ps, by rw [at_ a e1]; exact h1, h2, fun pos cv hc => by
        obtain ⟨c, e1, e2⟩ := h3 pos cv hc
        exact ⟨c, e1, t _ _ e2⟩⟩
  · rcases cs a _ h with ⟨e1, e2⟩ | ⟨e1, h'⟩
    · cases e2
    · obtain ⟨ps, h1, h2⟩ := z.tabg a h'
      exact ⟨ps, by rw [at_ a e1]; exact h1, h2⟩
/-- dice are written -/
theorem Grow.setD {F : Fh} {H : Hp} (z : Fz F H) {p : Addr} {i j k : Int} (hp : F p = some .dice) : Grow F H F (upd H p (.lst [.int i, .int j, .int k])) := by
  have no : ∀ {a o}, F a = some o → o ≠ .dice → a ≠ p := fun {a o} h n e => by rw [e, hp] at h; exact n (Option.some.inj h).symm
  refine ⟨fun _ _ h => h, fun a q h e => ?_, ⟨fun a o h => ?_, fun a h => ?_, fun a q' h => ?_, fun a h => ?_⟩⟩
  · have ne : a ≠ p := fun e' => by rw [e', hp] at h; cases h
    rw [upd_ne ne]; exact ⟨e, h⟩
  · rw [upd_ne (no h fun z => nomatch z)]; exact z.obj a o h
  · by_cases e : a = p
    · rw [e]; exact ⟨i, j, k, upd_same⟩
    · rw [upd_ne e]; exact z.dice a h
  · obtain ⟨ps, h1, h2, h3⟩ := z.tab a q' h
    exact ⟨ps, by rw [upd_ne (no h fun z => nomatch z)]; exact h1, h2, h3⟩
  · obtain ⟨ps, h1, h2⟩ := z.tabg a h
    exact ⟨ps, by rw [upd_ne (no h fun z => nomatch z)]; exact h1, h2⟩
def anyI : W Int := fun Q _ => ∀ z : Int, Q z
def In3 (j : Int) : Prop := j = 0 ∨ j = 1 ∨ j = 2
theorem em_ixD (i : Nat) {j : Int} {n : Nat} {x : Str} {p1 p2 : Pos} (h0 : ρ[i]? = some .dice) (hj : In3 j := by first | exact .inl rfl | exact .inr (.inl rfl) | exact .inr (.inr rfl)) (hN : C.X.N[i]? = some x := by rfl) (hv : Vis C.X.env.scope x := by first | exact .inl rfl | exact .inr (.inl rfl) | exact .inr (.inr rfl)) (hd : (x == ("__debug__" : Str)) = false := by decide) (hcd : (x == ("__classdict__" : Str)) = false := by decide) :
    EM C ρ (.Subscript (.Name x p1) (.Constant (.int j) n p2) pos) iD anyI := fun H0 σ F H Q Qp Ep fz s mq hq he => by
  obtain ⟨v, h1, u, rfl, hF⟩ := s.at h0
  obtain ⟨a, b, c, hH⟩ := fz.dice u hF
  refine wpE_of (pe_ix ix_list (pe_var (i := i) hN hv hd hcd) pe_int (fun _ _ => rfl)) ⟨.ref u, h1, ?_⟩
  rcases hj with rfl | rfl | rfl
  · exact ⟨u, _, 0, .int a, rfl, rfl, .inl (.inl hH), rfl, hq a (mq a) _ F H (Grow.refl fz) (.int _)⟩
  · exact ⟨u, _, 1, .int b, rfl, rfl, .inl (.inl hH), rfl, hq b (mq b) _ F H (Grow.refl fz) (.int _)⟩
  · exact ⟨u, _, 2, .int c, rfl, rfl, .inl (.inl hH), rfl, hq c (mq c) _ F H (Grow.refl fz) (.int _)⟩
theorem st_setD (i : Nat) {j : Int} {n : Nat} {x : Str} {p1 p2 p3 : Pos} {ma : W Int} (h : EM C ρ e iD ma) (h0 : ρ[i]? = some .dice) (hj : In3 j := by first | exact .inl rfl | exact .inr (.inl rfl) | exact .inr (.inr rfl)) (hN : C.X.N[i]? = some x := by rfl) (hv : Vis C.X.env.scope x := by first | exact .inl rfl | exact .inr (.inl rfl) | exact .inr (.inr rfl)) (hd : (x == ("__debug__" : Str)) = false := by decide) (hcd : (x == ("__classdict__" : Str)) = false := by decide)
    (ha : ∀ v, assign (.Subscript (.Name x p1) (.Constant (.int j) n p2) p3) C.X.env v = (do
      let ov ← holding [v] (eval (.Name x p1) C.X.env)
      let iv ← holding [v, ov] (eval (.Constant (.int j) n p2) C.X.env)
      standAt p3
      holding [v, ov, iv] (setItem ov iv v)
      release [v, ov, iv] []) := by intro _; rfl)
    (hs : swapsWithSole [.Subscript (.Name x p1) (.Constant (.int j) n p2) p3] e pos.line C.X.env = pure false := by rfl) (hw : swappedStores [.Subscript (.Name x p1) (.Constant (.int j) n p2) p3] e C.X.env = pure none := by rfl) (h1 : (assignEach [.Subscript (.Name x p1) (.Constant (.int j) n p2) p3] C.X.env).map (·.2) = [assign (.Subscript (.Name x p1) (.Constant (.int j) n p2) p3) C.X.env] := by rfl) :
    S1 C ρ (.Assign [.Subscript (.Name x p1) (.Constant (.int j) n p2) p3] e pos) (fun _ : Unit => ρ) fr (fun N _ E => ma (fun _ => N ()) E) := fun F0 H0 σ F H D N R' Ep G s mq hn hr he => by
  refine wpS_of (ps_asg pe_wp (pg_sub (pe_var (i := i) hN hv hd hcd) pe_int set_list ha) hs hw h1) (h H0 σ F H _ _ Ep G.z s mq (fun z nz v F1 H1 G1 d1 => ?_) fun c ec F' H' G' => he c ec F' H' (G.trans G'))
  rw [dp_int d1]
  obtain ⟨v0, h2, u, rfl, hF⟩ := (s.grow G1).at h0
  obtain ⟨a, b, c, hH⟩ := G1.z.dice u hF
  refine ⟨.ref u, h2, ?_⟩
  have fin : ∀ a b c : Int, D.nx σ (upd H1 u (.lst [.int a, .int b, .int c])) := fun a b c =>
    hn () nz σ F1 _ ((G.trans G1).trans (Grow.setD G1.z hF)) G1.f ((s.grow G1).grow (Grow.setD G1.z hF))
  rcases hj with rfl | rfl | rfl
  · exact ⟨u, _, 0, 0, rfl, rfl, hH, rfl, fin z b c⟩
  · exact ⟨u, _, 1, 1, rfl, rfl, hH, rfl, fin a z c⟩
  · exact ⟨u, _, 2, 2, rfl, rfl, hH, rfl, fin a b z⟩
/-! ### 31. the defs that make dice -/
def SMZ (C : Ct) (ρ : List Sl) (sts : List Stmt) (Z : Fh → V → Prop) (w : Prop) : Prop :=
  ∀ (F0 : Fh) (H0 : Hp) (σ : L2.St) (F : Fh) (H : Hp) (D : Ends), Grow F0 H0 F H → Sls C.kt H0 ρ σ F H → w → (∀ v F' H', Grow F0 H0 F' H' → Z F' v → D.rt v H') → wpB C.X sts D σ H
variable {Z : Fh → V → Prop}
theorem smz_cons {m1 : M S Unit} {w : S → Prop} (h1 : S1 C ρ st g nD m1) (h2 : ∀ s, SMZ C (g s) rest Z (w s)) : SMZ C ρ (st :: rest) Z (m1 w (fun _ => False) (fun _ => False)) := fun F0 H0 σ F H D G s mq hr =>
  wpB_of (pss_cons ps_wp pb_wp) (h1 F0 H0 σ F H _ w (fun _ => False) (fun _ => False) G s mq (fun s1 n1 σ' F' H' G' t' s' => h2 s1 F0 H0 σ' F' H' D G' s' n1 hr) (fun _ z => z.elim) (fun _ z => z.elim))
theorem smz_if {wa wb : Prop} (hc : TM C ρ c mc) (ha : SMZ C ρ A Z wa) (hb : SMZ C ρ rest Z wb) : SMZ C ρ (.If c A [] pos :: rest) Z (mc (fun k => if k = true then wa else wb) (fun _ => False)) := fun F0 H0 σ F H D G s mq hr =>
  wpB_of (pss_cons (ps_if pt_wp pb_wp pb_wp) pb_wp) (hc H0 σ F H _ _ _ G.z s mq (fun k qk F' H' G' => by
    cases k with
    | true =>
      rw [if_pos rfl]
      exact ha F0 H0 σ F' H' _ (G.trans G') (s.grow G') (ite_t rfl qk) hr
    | false =>
      rw [if_neg Bool.false_ne_true]
      exact wpB_of pss_nil (hb F0 H0 σ F' H' D (G.trans G') (s.grow G') (ite_f rfl qk) hr)) (fun _ z => z.elim))
def DiceZ : Fh → V → Prop := fun F v => ∃ d, v = .ref d ∧ F d = some .dice
theorem smz_retD {p2 : Pos} {mb : W (Int × Int × Int × Unit)} (h : AM C ρ es (fun b : Int × Int × Int × Unit => [.d (iD b.1), .d (iD b.2.1), .d (iD b.2.2.1)]) mb) : SMZ C ρ (.Return (some (.List es p2)) pos :: rest) DiceZ (mb (fun _ => True) (fun _ => False)) := fun F0 H0 σ F H D G s mq hr =>
  wpB_of (pss_cons (ps_ret (pe_lst pa_wp)) pb_wp) (h.run H0 σ F H _ _ _ G.z s mq (fun b _ vs F1 H1 G1 d1 => by
    have d2 := ars_dpa (ds := [iD b.1, iD b.2.1, iD b.2.2.1]) d1
    have e : vs = [.int b.1, .int b.2.1, .int b.2.2.1] := dpa_ints (ns := [b.1, b.2.1, b.2.2.1]) d2
    subst e
    refine ⟨Nat.le_of_lt (small1000 (Nat.le_of_ble_eq_true rfl)), fun p hp => ?_⟩
    exact hr _ _ _ ((G.trans G1).trans (Grow.newD G1.z hp)) ⟨p, rfl, updF_same⟩) (fun _ z => z.elim))
/-- a def by its promise -/
structure CalS (P : Program) (w : World) (K : PySem.W.Frag) (mg : Str → Option Value) (base : Heap) (k : Nat) (x : Str) (sp : Sp) : Prop where
  ex : ∃ (f : Addr) (fd : FuncData) (ps : List Str), FnOk P w K mg base (L2.CX P w) k f fd ps sp ∧ mg x = some (.ref f) ∧ PySem.W.keepIn K (.ref f) = true ∧ Binds K fd ps []
def spDice : Sp := fun vs H Q _ => ∃ (n : Int) (F : Fh), vs = [.int n] ∧ Fz F H ∧ ∀ v F' H', Grow F H F' H' → DiceZ F' v → Q v H'
def RndZ : Fh → V → Prop := fun F v => ∃ l d, v = .ref l ∧ F l = some (.obj (.lst [.ref d])) ∧ F d = some .dice
def spRnd (K : PySem.W.Frag) : Sp := fun vs H Q _ => ∃ (a : Addr) (xs : List Int) (F : Fh), vs = [.ref a, .int 1] ∧ Fz F H ∧ Dp K (un F) (.ref a) (lD iD xs) ∧ ∀ v F' H', Grow F H F' H' → RndZ F' v → Q v H'
theorem smz_retR {k : Nat} {xt xf xb : Str} {scope : Scope} {own : List (Str × Nat)} {xs : List Int} {q1 q2 q3 q4 q5 q6 : Pos} (ib i : Nat) (T : CalS C.X.prog C.X.w C.X.K C.X.mg C.X.base k xt spDice) (hk : k ≤ C.k) (h0 : ρ[ib]? = some (.d (lD iD xs))) (hN : C.X.N[ib]? = some xb) (hv : Vis C.X.env.scope xb)
    (ok : BlkOk C.X.N C.X.env.scope scope own) (hi : i ∈ own.map (·.2)) (hil : i < ρ.length) (hNf : C.X.N[i]? = some xf) (hl : ∀ cl cc, Loc (compEnvC scope cl cc C.X.env).scope xf) (hff : (scope.names.lookup xf == some .cell) = true ∨ ∀ cl cc, (compEnvC scope cl cc C.X.env).scope.names.lookup xf = some .local)
    (hgt : ∀ s0 Hz cc cl fp, Gl (C.bk scope s0 Hz cc cl fp).X xt)
    (hdt : (xt == ("__debug__" : Str)) = false := by decide) (hd : (xf == ("__debug__" : Str)) = false := by decide) (hcd : (xf == ("__classdict__" : Str)) = false := by decide) (hd2 : (xb == ("__debug__" : Str)) = false := by decide) (hcd2 : (xb == ("__classdict__" : Str)) = false := by decide) :
    SMZ C ρ [.Return (some (.ListComp (.Call (.Name xt q1) [.Name xf q2] [] q3) [⟨.Name xf q4, .Name xb q5, [], 0⟩] scope q6)) pos] RndZ (xs.length = 1) := fun F0 H0 σ F H D G s hx hr => by
  obtain ⟨v, hσ, u, eu, dv⟩ := s.at h0
  subst eu
  obtain ⟨a, vs, rfl, hs, hp⟩ := dp_lst dv
  have fz := G.z
  obtain ⟨n, rfl⟩ : ∃ n, xs = [n] := by
    match xs, hx with
    | [n], _ => exact ⟨n, rfl⟩
  obtain rfl : vs = [V.int n] := dpa_ints (ns := [n]) hp
  refine wpB_of (pss_one (ps_ret (pe_lc (tt := tYes) (te := wpEb C.X scope (.Call (.Name xt q1) [.Name xf q2] [] q3)) (g := gName i) C.calm C.nd (pi_list (pe_var (i := ib) hN hv hd2 hcd2)) ok
    (fun s0 Hz cc cl fp => pg_name (X := (C.bk scope s0 Hz cc cl fp).X) (i := i) C.nd hNf (hl cl cc) (hff.imp id fun z => z cl cc)) (fun s0 Hz cc cl fp => pts_nil) (fun s0 Hz cc cl fp => ⟨fun pins s σ H Q I h => h s0 Hz cc cl fp pins s I⟩)))) ?_
  refine ⟨.ref a, hσ, a, rfl, ⟨[V.int n], sql_un fz hs⟩, fun D' hD => ?_⟩
  have nD := fz.none hD
  refine lc_list (K := C.X.K) (a := a) (xs := [V.int n]) (fun j H' => ∃ F', Grow F H F' H' ∧ F' D' = none ∧ ((j = 0 ∧ H' D' = some (.lst [])) ∨ (j = 1 ∧ ∃ d, H' D' = some (.lst [.ref d]) ∧ F' d = some .dice))) ⟨F, Grow.lay fz hD, nD, .inl ⟨rfl, upd_same⟩⟩ (fun j H' _ ⟨F', G', _, _⟩ => sql_un G'.z (sql_mono G'.un hs)) (fun j x H' hx ⟨F', G', n', e⟩ => ?_) fun H' ⟨F', G', n', e⟩ => ?_
  · have hw : wipe ((wipe σ (own.map (·.2))).set i (some x)) (own.map (·.2)) = wipe σ (own.map (·.2)) := (wipe_set _ i _ hi).trans (wipe_wipe _ _)
    refine ⟨hw, ?_⟩
    unfold tYes
    refine Eq.mpr (if_pos (c := true = true) rfl) ?_
    intro s0 Hz cc cl fp
    have hj : j = 0 := by
      cases j with
      | zero => rfl
      | succ j => cases hx
    subst hj
    obtain rfl : V.int n = x := Option.some.inj hx
    have hli : i < (wipe σ (own.map (·.2))).length := by rw [wipe_len, ← s.len]; exact hil
    obtain ⟨f1, fd, ps, hF, hm, hkp, hb⟩ := T.ex
    refine wpE_of (pe_call (X := (C.bk scope s0 Hz cc cl fp).X) hF ((C.bk scope s0 Hz cc cl fp).room.mono hk) (hgt s0 Hz cc cl fp) hm hkp hb .nil (C.bk scope s0 Hz cc cl fp).pass (pa_cons (pe_var (X := (C.bk scope s0 Hz cc cl fp).X) (i := i) hNf (by rcases hl cl cc with q | q; exact .inl q; exact .inr (.inl q)) hd hcd) pa_nil (star_of rfl _)) hdt (star_of rfl _) (by rfl)) ?_
    refine ⟨V.int n, List.getElem?_set_self hli, n, F', rfl, G'.z, fun v F2 H2 G2 ⟨d, ev, hd⟩ => ?_⟩
    subst ev
    rcases e with ⟨_, e⟩ | ⟨z, _⟩
    · obtain ⟨k1, k2⟩ := G2.k D' _ n' e
      have h00 : (H D') = none := hD
      refine ⟨[], k1, ?_, F2, ?_, k2, .inr ⟨rfl, d, upd_same, hd⟩⟩
      · rw [sizeLine_eq]; decide
      · refine Grow.own (G'.trans G2) k2 hD k1
    · cases z
  · rcases e with ⟨z, _⟩ | ⟨_, d, e, hd⟩
    · cases z
    · have nd : d ≠ D' := fun q => by rw [q, n'] at hd; cases hd
      refine hr _ _ _ (G.trans (G'.freeze n' hD e)) ⟨D', d, rfl, updF_same, by rw [updF_ne nd]; exact hd⟩
/-- for dice in rounds(script, 1): body -/
theorem st_rounds {k : Nat} {xt xs xd : Str} {ns : List Int} {m1 : M S R} {q1 q2 q3 q4 q5 : Pos} {j : Nat} (is i : Nat) (T : CalS C.X.prog C.X.w C.X.K C.X.mg C.X.base k xt (spRnd C.X.K)) (h0 : ρ[is]? = some (.d (lD iD ns))) (hb : SM C (ρ.set i .dice) B g fr m1) (hk : k ≤ C.k := by first | exact Nat.le_refl _ | exact Nat.le_of_ble_eq_true rfl) (hN : C.X.N[is]? = some xs := by rfl) (hv : Vis C.X.env.scope xs := by first | exact .inl rfl | exact .inr (.inl rfl) | exact .inr (.inr rfl))
    (hNd : C.X.N[i]? = some xd := by rfl) (hl : Loc C.X.env.scope xd := by first | exact .inl rfl | exact .inr rfl) (hff : C.X.fn xd = true ∨ C.X.env.scope.names.lookup xd = some .local := by first | exact .inl rfl | exact .inr rfl) (hg : Gl C.X xt := by rfl)
    (hdt : (xt == ("__debug__" : Str)) = false := by decide) (hd : (xs == ("__debug__" : Str)) = false := by decide) (hcd : (xs == ("__classdict__" : Str)) = false := by decide) :
    S1 C ρ (.For (.Name xd q1) (.Call (.Name xt q2) [.Name xs q3, .Constant (.int 1) j q4] [] q5) B [] pos) g fr m1 := fun F0 H0 σ F H D N R' Ep G s mq hn hr he => by
  obtain ⟨v, hσ, u, eu, dv⟩ := s.at h0
  subst eu
  obtain ⟨a, vs, rfl, hs, hp⟩ := dp_lst dv
  obtain ⟨f1, fd, ps, hF, hm, hkp, hbn⟩ := T.ex
  refine wpS_of (ps_for C.po C.calm (pi_list (pe_call hF (C.room.mono hk) hg hm hkp hbn .nil C.pass (pa_cons (pe_var (i := is) hN hv hd hcd) (pa_cons pe_int pa_nil (star_of rfl _)) (star_of rfl _)) hdt (star_of rfl _) (by rfl))) (pg_name (i := i) C.nd hNd hl hff) pb_wp) ?_
  refine ⟨.ref a, hσ, a, ns, F, rfl, G.z, dv, fun v F1 H1 G1 ⟨l, d, ev, hl1, hd1⟩ => ?_⟩
  subst ev
  refine ⟨l, rfl, ⟨[.ref d], .inl (.inl (G1.z.obj _ _ hl1))⟩, ?_⟩
  refine ⟨fun ix n σ2 H2 => (ix = 0 ∧ n = 1 ∧ σ2 = σ ∧ H2 = H1) ∨ (ix = 1 ∧ n = 0 ∧ ∃ s' F', N s' ∧ Grow F0 H0 F' H2 ∧ Sub F1 F' ∧ Sls C.kt H0 (g s') σ2 F' H2), ⟨1, .inl ⟨rfl, rfl, rfl, rfl⟩⟩, fun ix n σ2 H2 hW => ?_⟩
  rcases hW with ⟨rfl, rfl, rfl, rfl⟩ | ⟨rfl, rfl, s', F', ns', G', t', sl'⟩
  · refine .inr ⟨⟨[.ref d], .ref d, .inl (.inl (G1.z.obj _ _ hl1)), rfl⟩, fun σ' H' => ∃ s' F', N s' ∧ Grow F0 H0 F' H' ∧ Sub F1 F' ∧ Sls C.kt H0 (g s') σ' F' H', fun σ' H' z => ⟨0, by decide, .inr ⟨rfl, rfl, z⟩⟩, fun x H' y => ?_⟩
    obtain ⟨rfl, y2⟩ := y
    have ex := y2 [.ref d] (.inl (.inl (G1.z.obj _ _ hl1)))
    obtain rfl : V.ref d = x := Option.some.inj ex
    refine hb F0 H0 _ F1 H' _ N R' Ep (G.trans G1) ((s.grow G1).set i (fun _ z => nomatch z) ⟨d, rfl, hd1⟩) mq (fun s1 n1 σ' F' H' G' t' sl' => ⟨s1, F', n1, G', t', sl'⟩) hr he
  · refine .inl ⟨⟨[.ref d], .inl (.inl (G'.z.obj _ _ (t' _ _ hl1))), Nat.le_refl _⟩, ?_⟩
    exact hn s' ns' σ2 F' H2 G' (fun a o z => t' a o (G1.f a o z)) sl'
end
end Wl
namespace Wl
open PySem PySem.Spec PyProof.Rows L2
/-! ### 32. lambdas and tables, as the printed derivations take them -/
theorem genS_by {env : Env} {scope : Scope} {x : Str} (h : (decide (scope.kind = .function) && !scope.isCoroutine && (scope.names.all fun y => !decide (y.2 = .cell)) && decide (scope.names.lookup (".0" : Str) = some NameKind.local) && decide (scope.names.lookup x = some .local) && noFree scope) = true) : GxR.GenS env scope x := by
  simp only [Bool.and_eq_true, Bool.not_eq_true', decide_eq_true_eq, decide_eq_false_iff_not, List.all_eq_true] at h
  obtain ⟨⟨⟨⟨⟨h1, h2⟩, h3⟩, h4⟩, h5⟩, h6⟩ := h
  refine ⟨h1, h2, h3, h4, h5, fun y hy e => ?_⟩
  have q := List.all_eq_true.mp h6 y hy
  rw [e] at q
  exact absurd q (by decide)
section
variable {C : Ct} {ρ : List Sl} {c : Str}
def Raised1 (C : Ct) (k : Nat) (c : Str) (sp : Expr × Scope) (p : Prop) : Prop := LamX.lamSB ⟨.function, [], false, false, []⟩ sp.2 = true ∧ ∃ (α : Type) (f : α → PyData) (m : W α), p = m (fun _ => False) (fun e => e = c) ∧
  ∀ (scope : Scope) (s0 : Shared) (Hz : Hp) (cc : Addr) (cl : List (Str × Addr)) (fp : List Addr) (fa ca' : Addr) (A : Around) (outer : List Env) (s : Shared) (H : Hp) (E : XK) (hr : Room k (A.deeper (LamX.lamEnv (C.bk scope s0 Hz cc cl fp).X sp.2 s.heap.objs.size fa ca'))) (ρ : List Sl),
    EM ((C.bk scope s0 Hz cc cl fp).lam A outer s H E sp.2 fa ca' hr) ρ sp.1 f m
theorem raised1 {α : Type} {f : α → PyData} {m : W α} {k : Nat} {sp : Expr × Scope} (h1 : LamX.lamSB ⟨.function, [], false, false, []⟩ sp.2 = true)
    (h : ∀ (scope : Scope) (s0 : Shared) (Hz : Hp) (cc : Addr) (cl : List (Str × Addr)) (fp : List Addr) (fa ca' : Addr) (A : Around) (outer : List Env) (s : Shared) (H : Hp) (E : XK) (hr : Room k (A.deeper (LamX.lamEnv (C.bk scope s0 Hz cc cl fp).X sp.2 s.heap.objs.size fa ca'))) (ρ : List Sl),
      EM ((C.bk scope s0 Hz cc cl fp).lam A outer s H E sp.2 fa ca' hr) ρ sp.1 f m) : Raised1 C k c sp (m (fun _ => False) (fun e => e = c)) := ⟨h1, α, f, m, rfl, h⟩
inductive RaisedL (C : Ct) (k : Nat) (c : Str) : List (Expr × Scope) → Prop → Prop
  | nil : RaisedL C k c [] True
  | cons {sp : Expr × Scope} {sps : List (Expr × Scope)} {p q : Prop} : noFree sp.2 = true → Raised1 C k c sp p → RaisedL C k c sps q → RaisedL C k c (sp :: sps) (p ∧ q)
theorem RaisedL.all {k : Nat} {sps : List (Expr × Scope)} {p : Prop} (h : RaisedL C k c sps p) (hp : p) : ∀ s ∈ sps, noFree s.2 = true ∧ Raised C k c s := by
  induction h with
  | nil => intro s hs; cases hs
  | cons nf h1 _ ih =>
    intro s hs
    rcases List.mem_cons.mp hs with e | e
    · subst e
      obtain ⟨h2, α, f, m, e2, h3⟩ := h1
      exact ⟨nf, h2, α, f, m, by rw [← e2]; exact hp.1, h3⟩
    · exact ih hp.2 s e
theorem em_badW {k : Nat} {xt xf xb : Str} {scope : Scope} {own : List (Str × Nat)} {sp : List (Expr × Scope)} {i1 : Int} {j1 j2 : Nat} {q1 q2 q3 q4 q5 q6 q7 q8 : Pos} {pos : Pos} {pp : Prop} (ib i : Nat) (T : Told C.X.K C.X.mg C.ca xt c) (hk : k + 2 ≤ C.k) (h0 : ρ[ib]? = some (.raw (LamsAt (C.X.env.qual ++ "<lambda>") sp))) (hN : C.X.N[ib]? = some xb) (hv : Vis C.X.env.scope xb)
    (ok : BlkOk C.X.N C.X.env.scope scope own) (hi : i ∈ own.map (·.2)) (hil : i < ρ.length) (hNf : C.X.N[i]? = some xf) (hl : ∀ cl cc, Loc (compEnvC scope cl cc C.X.env).scope xf) (hff : (scope.names.lookup xf == some .cell) = true ∨ ∀ cl cc, (compEnvC scope cl cc C.X.env).scope.names.lookup xf = some .local)
    (hgt : ∀ s0 Hz cc cl fp, Gl (C.bk scope s0 Hz cc cl fp).X xt) (hsp : RaisedL C k c sp pp)
    (hdt : (xt == ("__debug__" : Str)) = false := by decide) (hd : (xf == ("__debug__" : Str)) = false := by decide) (hcd : (xf == ("__classdict__" : Str)) = false := by decide) (hd2 : (xb == ("__debug__" : Str)) = false := by decide) (hcd2 : (xb == ("__classdict__" : Str)) = false := by decide) :
    EM C ρ (.ListComp (.Constant (.int i1) j1 q1) [⟨.Name xf q2, .Name xb q3, [.Compare (.Call (.Name xt q4) [.Name xf q5] [] q6) [.NotEq] [.Constant (.str c) j2 q7] q8], 0⟩] scope pos) (lD iD) (.need pp (.ret [])) := fun H0 σ F H Q Qp Ep fz s mq hq he =>
  em_bad ib i T hk h0 hN hv ok hi hil hNf hl hff hgt (hsp.all mq.1) hdt hd hcd hd2 hcd2 H0 σ F H Q Qp Ep fz s mq.2 hq he
end
end Wl
namespace Wl
open PySem PySem.Spec PyProof.Rows L2
def M.en {S R : Type} (m : M Empty R) : M S R := fun N R' E => m (fun _ => False) R' E
section
variable {C : Ct} {ρ : List Sl} {st : Stmt} {S R : Type} {g : S → List Sl} {fr : R → PyData} {e : Expr}
theorem s1_eqv {m1 m2 : M S R} (h : S1 C ρ st g fr m1) (e : m1 = m2) : S1 C ρ st g fr m2 := e ▸ h
theorem em_eqvT {m1 m2 : W Bool} (h : TM C ρ e m1) (q : m1 = m2) : TM C ρ e m2 := q ▸ h
end
def M.one {S R : Type} (m : M S R) : M S R := m
theorem W.bd_eq {α β : Type} (m : W α) (f : α → W β) : W.bd m f = fun Q E => m (fun x => f x Q E) E := rfl
theorem W.ret_eq {α : Type} (x : α) : W.ret x = fun Q _ => Q x := rfl
theorem W.need_eq {α : Type} (p : Prop) (m : W α) : W.need p m = fun Q E => p ∧ m Q E := rfl
theorem W.calm_eq {α : Type} (m : W α) : W.calm m = fun Q _ => m Q (fun _ => False) := rfl
theorem M.bd_eq {S T R : Type} (m : M S R) (k : S → M T R) : M.bd m k = fun N R' E => m (fun s => k s N R' E) R' E := rfl
theorem M.one_eq {S R : Type} (m : M S R) : M.one m = m := rfl
theorem W.let_eq {α : Type} (x : α) (k : α → Prop) : W.let x k = k x := rfl
theorem mulOk_r {i j : Int} (h1 : -(2 ^ 64) < j) (h2 : j < 2 ^ 64) : MulOk i j := IntMulOk.of_right (intBits_le_64 h1 h2)
theorem mulOk_l {i j : Int} (h1 : -(2 ^ 64) < i) (h2 : i < 2 ^ 64) : MulOk i j := IntMulOk.of_left (intBits_le_64 h1 h2)
theorem divOk_small {i j : Int} (h0 : j ≠ 0) (h : j.natAbs < 2 ^ 9000) : DivOk i j := ⟨h0, by
  rw [Nat.log2_lt (by omega)]; exact h⟩
theorem pow9000 : 2 ^ 64 ≤ 2 ^ 9000 := Nat.pow_le_pow_right (by decide) (by decide)
theorem small_pow {a : Int} (h1 : 0 < a) (h2 : a ≤ 100000000) : a.natAbs < 2 ^ 9000 := Nat.lt_of_lt_of_le (show a.natAbs < 2 ^ 64 by omega) pow9000
theorem divOk_r {i j : Int} (h0 : j ≠ 0) (h1 : -(2 ^ 64) < j) (h2 : j < 2 ^ 64) : DivOk i j := divOk_small h0 (Nat.lt_of_lt_of_le (show j.natAbs < 2 ^ 64 by omega) pow9000)
theorem fmod_nn {z a : Int} (h : 0 < a) : 0 ≤ Int.fmod z a := Int.fmod_nonneg_of_pos z h
theorem fmod_lt {z a : Int} (h : 0 < a) : Int.fmod z a < a := Int.fmod_lt_of_pos z h
end Wl
namespace Wl
open PySem PySem.Spec PyProof.Rows L2
/-! ### 33. the law's def at its call -/
theorem lookup_nodup {T : List (Addr × FO)} (h : (T.map (·.1)).Nodup) : ∀ p ∈ T, T.lookup p.1 = some p.2 := by
  induction T with
  | nil => intro p hp; cases hp
  | cons q T ih =>
    rw [List.map_cons, List.nodup_cons] at h
    intro p hp
    rcases List.mem_cons.mp hp with e | e
    · subst e
      obtain ⟨a, o⟩ := p
      show (match a == a with | true => some o | false => _) = some o
      rw [beq_self_eq_true]
    · have ne : (p.1 == q.1) = false := beq_eq_false_iff_ne.mpr fun z => h.1 (z ▸ List.mem_map_of_mem e)
      obtain ⟨a, o⟩ := q
      show (match p.1 == a with | true => some o | false => T.lookup p.1) = some p.2
      rw [ne]
      exact ih h.2 p e
theorem lookup_mem' {T : List (Addr × FO)} {b : Addr} {o : FO} (h : T.lookup b = some o) : (b, o) ∈ T := by
  induction T with
  | nil => cases h
  | cons q T ih =>
    obtain ⟨a, u⟩ := q
    have h2 : (match b == a with | true => some u | false => T.lookup b) = some o := h
    cases e : (b == a) with
    | true =>
      rw [e] at h2
      have e2 : u = o := Option.some.inj h2
      rw [beq_iff_eq.mp e, e2]
      exact List.mem_cons_self
    | false =>
      rw [e] at h2
      exact List.mem_cons_of_mem _ (ih h2)
theorem entry {K : PySem.W.Frag} {H : Hp} {a : Addr} {ns : List Int} {T : List (Addr × FO)} (hT : ∀ p ∈ T, H p.1 = some (.tbl #[])) (hk : (T.map (·.1)).Nodup) (ht : ∀ p ∈ T, (∃ q, p.2 = .tab q) ∨ p.2 = .tabg) (nK : ∀ p ∈ T, K.lookup p.1 = none) (hS : SqL K H a (ns.map V.int)) :
    ∃ F, Fz F H ∧ (∀ p ∈ T, F p.1 = some p.2) ∧ Dp K (un F) (.ref a) (lD iD ns) := by
  have hk2 := lookup_nodup hk
  have na : ∀ p ∈ T, p.1 ≠ a := fun p hp e => by
    have h1 := hT p hp
    rw [e] at h1
    rcases hS with (h2 | ⟨o, h2⟩) | ⟨o, ho, _⟩
    · rw [h1] at h2; cases h2
    · rw [h1] at h2; cases h2
    · have h3 := nK p hp
      rw [e] at h3
      simp_all
  have la : T.lookup a = none := by
    cases e : T.lookup a with
    | none => rfl
    | some o => exact absurd rfl (na _ (lookup_mem' e))
  refine ⟨fun b => match T.lookup b with | some o => some o | none => if b = a then (H a).map .obj else none, ⟨fun b o e => ?_, fun b e => ?_, fun b q e => ?_, fun b e => ?_⟩, fun p hp => ?_, ?_⟩
  · split at e
    · rename_i o' e'
      cases e
      rcases ht _ (lookup_mem' e') with ⟨q, z⟩ | z <;> cases z
    · split at e
      · rename_i e2
        rw [e2]
        cases q : H a with
        | none => rw [q] at e; cases e
        | some u => rw [q] at e; cases e; rfl
      · cases e
  · split at e
    · rename_i o' e'
      cases e
      rcases ht _ (lookup_mem' e') with ⟨q, z⟩ | z <;> cases z
    · split at e
      · cases q : H a with
        | none => rw [q] at e; cases e
        | some u => rw [q] at e; cases e
      · cases e
  · split at e
    · rename_i o' e'
      cases e
      exact ⟨#[], hT _ (lookup_mem' e'), trivial, fun pos cv hc => by cases hc⟩
    · split at e
      · cases q : H a with
        | none => rw [q] at e; cases e
        | some u => rw [q] at e; cases e
      · cases e
  · split at e
    · rename_i o' e'
      cases e
      exact ⟨#[], hT _ (lookup_mem' e'), trivial⟩
    · split at e
      · cases q : H a with
        | none => rw [q] at e; cases e
        | some u => rw [q] at e; cases e
      · cases e
  · simp only
    rw [hk2 p hp]
  · refine .lst (xs := ns.map V.int) ?_ ints_dpa
    rcases hS with (h2 | ⟨o, h2⟩) | h2
    · refine .inl (.inl (un_iff.mpr ?_))
      simp only [la, h2]
      simp
    · refine .inl (.inr ⟨o, un_iff.mpr ?_⟩)
      simp only [la, h2]
      simp
    · exact .inr h2
end Wl
namespace Wl
open PySem
/-! ### M1. loops -/
theorem whl_stop {S R : Type} {c : S → W Bool} {b : S → M S R} {s : S} {N : S → Prop} {Rr : R → Prop} {E : Str → Prop} (hc : ∀ Q : Bool → Prop, Q false → c s Q E) (h : N s) : M.whl c b s N Rr E :=
  ⟨1, hc _ (by rw [if_neg Bool.false_ne_true]; exact h)⟩
theorem whl_go {S R : Type} {c : S → W Bool} {b : S → M S R} {s : S} (s' : S) {N : S → Prop} {Rr : R → Prop} {E : Str → Prop} (hc : ∀ Q : Bool → Prop, Q true → c s Q E) (hb : ∀ N' : S → Prop, N' s' → b s N' Rr E) (h : M.whl c b s' N Rr E) : M.whl c b s N Rr E := by
  obtain ⟨n, h⟩ := h
  exact ⟨n + 1, hc _ (by rw [if_pos rfl]; exact hb _ h)⟩
theorem for_all {α R : Type} {b : Unit → α → M Unit R} {Rr : R → Prop} {E : Str → Prop} : ∀ {xs : List α} {N : Unit → Prop}, (∀ x ∈ xs, ∀ N : Unit → Prop, N () → b () x N Rr E) → N () → M.for xs () b N Rr E
  | [], N, _, h => h
  | x :: xs, N, hb, h => hb x List.mem_cons_self _ (for_all (fun y hy => hb y (List.mem_cons_of_mem _ hy)) h)
/-- a loop whose turns reckon a function -/
theorem for_fold {α S R : Type} {b : S → α → M S R} {Rr : R → Prop} {E : Str → Prop} (f : S → α → S) (I : S → List α → Prop) : ∀ {xs : List α} {s : S} {N : S → Prop}, I s xs → (∀ s x xs, I s (x :: xs) → I (f s x) xs ∧ ∀ N : S → Prop, N (f s x) → b s x N Rr E) → N (xs.foldl f s) → M.for xs s b N Rr E
  | [], s, N, _, _, h => h
  | x :: xs, s, N, hi, hb, h => (hb s x xs hi).2 _ (for_fold f I (hb s x xs hi).1 hb h)
/-- a loop with an invariant -/
theorem for_inv {α S R : Type} {b : S → α → M S R} {Rr : R → Prop} {E : Str → Prop} (I : S → List α → Prop) : ∀ {xs : List α} {s : S} {N : S → Prop}, I s xs → (∀ s x xs, I s (x :: xs) → ∀ N : S → Prop, (∀ s', I s' xs → N s') → b s x N Rr E) → (∀ s, I s [] → N s) → M.for xs s b N Rr E
  | [], s, N, hi, _, h => h s hi
  | x :: xs, s, N, hi, hb, h => hb s x xs hi _ fun s' hs => for_inv I hs hb h
/-- a comprehension: each element by a wish that is sure to come to some (g x) -/
theorem fm_all {α β : Type} {h : α → W (Option β)} {E : Str → Prop} {P : β → Prop} : ∀ {xs : List α} {Q : List β → Prop}, (∀ x ∈ xs, ∀ Q : Option β → Prop, (∀ y, P y → Q (some y)) → h x Q E) → (∀ ys : List β, ys.length = xs.length → (∀ y ∈ ys, P y) → Q ys) → W.fm xs h Q E
  | [], Q, _, hq => hq [] rfl fun _ z => nomatch z
  | x :: xs, Q, hh, hq => by
    refine hh x List.mem_cons_self _ fun y hy => ?_
    refine fm_all (fun z hz => hh z (List.mem_cons_of_mem _ hz)) fun ys hl hp => ?_
    exact hq (y :: ys) (by rw [List.length_cons, List.length_cons, hl]) fun z hz => by
      rcases List.mem_cons.mp hz with e | e
      · rw [e]; exact hy
      · exact hp z e
/-- .. a filter -/
theorem fm_filter {α β : Type} {h : α → W (Option β)} {E : Str → Prop} (g : α → Option β) : ∀ {xs : List α} {Q : List β → Prop}, (∀ x ∈ xs, ∀ Q : Option β → Prop, Q (g x) → h x Q E) → Q (xs.filterMap g) → W.fm xs h Q E
  | [], Q, _, hq => hq
  | x :: xs, Q, hh, hq => by
    refine hh x List.mem_cons_self _ ?_
    refine fm_filter g (fun z hz => hh z (List.mem_cons_of_mem _ hz)) ?_
    rw [List.filterMap_cons] at hq
    show Q (match g x with | some y => y :: xs.filterMap g | none => xs.filterMap g)
    cases e : g x with
    | none => rw [e] at hq; exact hq
    | some y => rw [e] at hq; exact hq
/-! ### M2. numbers -/
abbrev gC : Int × Int → W Bool := fun s Q E => Q (!decide (s.2 = (0 : Int)))
abbrev gB {R : Type} : Int × Int → M (Int × Int) R := fun s N _ E => ModOk s.1 s.2 ∧ N (s.2, Int.fmod s.1 s.2)
theorem gcd_run {R : Type} (b : Nat) : ∀ (a : Nat) (N : Int × Int → Prop) (Rr : R → Prop) (E : Str → Prop), N (((Nat.gcd a b : Nat) : Int), 0) → M.whl gC gB ((a : Int), (b : Int)) N Rr E := by
  induction b using Nat.strongRecOn with
  | ind b ih =>
    intro a N Rr E h
    by_cases hb : b = 0
    · subst hb
      rw [Nat.gcd_zero_right] at h
      exact whl_stop (fun Q q => by simpa [gC] using q) h
    · have e : Int.fmod (a : Int) (b : Int) = ((a % b : Nat) : Int) := by
        rw [Int.fmod_eq_emod_of_nonneg _ (by omega)]; rfl
      refine whl_go ((b : Int), ((a % b : Nat) : Int)) (fun Q q => by
        have : (!decide ((b : Int) = 0)) = true := by simp; omega
        show Q (!decide ((b : Int) = 0))
        rw [this]; exact q) (fun N' q => ⟨show (b : Int) ≠ 0 by omega, by
        show N' ((b : Int), Int.fmod (a : Int) (b : Int))
        rw [e]; exact q⟩) (ih (a % b) (Nat.mod_lt _ (Nat.pos_of_ne_zero hb)) b N Rr E (by rw [Nat.gcd_comm, ← Nat.gcd_rec, Nat.gcd_comm]; exact h))
theorem absI_eq (x : Int) : absI x = (x.natAbs : Int) := by
  unfold absI; split <;> omega
theorem maxN_eq (x : Int) : maxI x (-x) = (x.natAbs : Int) := by
  unfold maxI; split <;> omega
/-- a part in least terms -/
def nf (t b : Int) : Int × Int := if b < 0 then (Int.fdiv (-t) (Int.gcd t b), Int.fdiv (-b) (Int.gcd t b)) else (Int.fdiv t (Int.gcd t b), Int.fdiv b (Int.gcd t b))
theorem gcd_ne {t b : Int} (h : b ≠ 0) : (Int.gcd t b : Int) ≠ 0 := by
  have : 0 < Int.gcd t b := Int.gcd_pos_of_ne_zero_right _ h
  omega
theorem gcd_small {t b : Int} (h : b ≠ 0) (h1 : -(2 ^ 64) < b) (h2 : b < 2 ^ 64) (z : Int) : DivOk z (Int.gcd t b : Int) := by
  have h3 : Int.gcd t b ≤ b.natAbs := Nat.le_of_dvd (by omega) (Int.gcd_dvd_natAbs_right t b)
  exact divOk_r (gcd_ne h) (by omega) (by omega)
/-- what is in least terms -/
structure Red (p : Int × Int) (u v : Int) : Prop where
  pos : 0 < p.2
  one : Int.gcd p.1 p.2 = 1
  top : -u ≤ p.1 ∧ p.1 ≤ u
  bot : p.2 ≤ v
theorem fdiv_g {x : Int} {g : Nat} (hg : 0 < g) (hd : (g : Int) ∣ x) : ∃ y, x = g * y ∧ Int.fdiv x g = y := by
  obtain ⟨y, rfl⟩ := hd
  exact ⟨y, rfl, Int.mul_fdiv_cancel_left _ (by omega)⟩
theorem nf_ex {t b : Int} (h0 : b ≠ 0) : ∃ (g : Nat) (x y : Int), 0 < g ∧ 0 < y ∧ Int.gcd x y = 1 ∧ nf t b = (x, y) ∧ ((t = g * x ∧ b = g * y) ∨ (t = -(g * x) ∧ b = -(g * y))) := by
  have hg : 0 < Int.gcd t b := Int.gcd_pos_of_ne_zero_right _ h0
  have key : ∀ u c : Int, Int.gcd u c = Int.gcd t b → 0 < c → ∃ x y : Int, 0 < y ∧ Int.gcd x y = 1 ∧ (Int.fdiv u (Int.gcd t b), Int.fdiv c (Int.gcd t b)) = (x, y) ∧ u = Int.gcd t b * x ∧ c = Int.gcd t b * y := fun u c e hc => by
    obtain ⟨x, ex, fx⟩ := fdiv_g (x := u) hg (by rw [← e]; exact Int.gcd_dvd_left ..)
    obtain ⟨y, ey, fy⟩ := fdiv_g (x := c) hg (by rw [← e]; exact Int.gcd_dvd_right ..)
    refine ⟨x, y, ?_, ?_, by rw [fx, fy], ex, ey⟩
    · apply Int.pos_of_mul_pos_right (a := (Int.gcd t b : Int)) ?_ (by omega)
      rw [← ey]; exact hc
    · have h1 : Int.gcd u c = Int.gcd t b * Int.gcd x y := by
        rw [ex, ey, Int.gcd_mul_left]; simp
      rw [e] at h1
      have h2 : Int.gcd t b * Int.gcd x y = Int.gcd t b * 1 := by omega
      exact Nat.eq_of_mul_eq_mul_left hg h2
  unfold nf
  by_cases hb : b < 0
  · rw [if_pos hb]
    obtain ⟨x, y, h1, h2, h3, h4, h5⟩ := key (-t) (-b) (by rw [Int.gcd_neg, Int.neg_gcd]) (by omega)
    exact ⟨_, x, y, hg, h1, h2, h3, .inr ⟨by omega, by omega⟩⟩
  · rw [if_neg hb]
    obtain ⟨x, y, h1, h2, h3, h4, h5⟩ := key t b rfl (by omega)
    exact ⟨_, x, y, hg, h1, h2, h3, .inl ⟨h4, h5⟩⟩
theorem le_mul_pos {g : Nat} {x u : Int} (hg : 0 < g) (h1 : -u ≤ g * x) (h2 : g * x ≤ u) : -u ≤ x ∧ x ≤ u := by
  have hu : 0 ≤ u := by omega
  have hg' : (1 : Int) ≤ g := by omega
  by_cases hx : 0 ≤ x
  · have : x ≤ g * x := by
      have := Int.mul_le_mul_of_nonneg_right hg' hx
      rwa [Int.one_mul] at this
    omega
  · have : (g : Int) * x ≤ x := by
      have := Int.mul_le_mul_of_nonpos_right hg' (show x ≤ 0 by omega)
      rwa [Int.one_mul] at this
    omega
theorem nf_red {t b u v : Int} (h0 : b ≠ 0) (ht : -u ≤ t ∧ t ≤ u) (hb : -v ≤ b ∧ b ≤ v) : Red (nf t b) u v := by
  obtain ⟨g, x, y, hg, hy, h1, e, h2⟩ := nf_ex (t := t) h0
  rw [e]
  have hx : -u ≤ x ∧ x ≤ u := by
    rcases h2 with ⟨h2, _⟩ | ⟨h2, _⟩
    · exact le_mul_pos hg (by omega) (by omega)
    · exact le_mul_pos hg (by omega) (by omega)
  have hyv : -v ≤ y ∧ y ≤ v := by
    rcases h2 with ⟨_, h2⟩ | ⟨_, h2⟩
    · exact le_mul_pos hg (by omega) (by omega)
    · exact le_mul_pos hg (by omega) (by omega)
  exact ⟨hy, h1, hx, hyv.2⟩
theorem nf_self {a b : Int} (hb : 0 < b) (h : Int.gcd a b = 1) : nf a b = (a, b) := by
  unfold nf
  rw [if_neg (by omega), h]
  simp
end Wl
namespace Wl
open PySem
/-! ### M3. texts -/
abbrev S (l : List Nat) : Str := SX.S l
theorem S_inj {a b : List Nat} (h : S a = S b) : a = b := congrArg TL.tl h
theorem S_tl (x : Str) : S (TL.tl x) = x := TL.ext_tl rfl
theorem tlS (l : List Nat) : TL.tl (S l) = l := rfl
theorem S_length (l : List Nat) : (S l).length = l.length := by rw [TL.len_tl]
theorem S_app (a b : List Nat) : S a ++ S b = S (a ++ b) := TL.ext_tl (by rw [TL.tl_append])
theorem dec_S (a b : List Nat) : decide (S a = S b) = decide (a = b) := dec_iff ⟨S_inj, fun h => by rw [h]⟩
theorem big_line : (2 : Nat) ^ 20 < sizeLine := by rw [sizeLine_eq]; decide
/-- the wishes of texts, by lists -/
theorem w_add {a b : List Nat} {Q : Str → Prop} {E : Str → Prop} (h : a.length + b.length < 2 ^ 20) (q : Q (S (a ++ b))) : addSW (S a) (S b) Q E :=
  ⟨by rw [S_length, S_length]; exact Nat.le_of_lt (Nat.lt_trans h big_line), by rw [S_app]; exact q⟩
theorem w_len {a : List Nat} {Q : Int → Prop} {E : Str → Prop} (h : a.length < 2 ^ 20) (q : Q (a.length : Int)) : lenSW (S a) Q E :=
  ⟨by rw [S_length]; exact Nat.le_of_lt (Nat.lt_trans h big_line), by rw [S_length]; exact q⟩
theorem flat_rep (c n : Nat) : (List.replicate n [c]).flatten = List.replicate n c := by
  induction n with
  | zero => rfl
  | succ n ih => rw [List.replicate_succ, List.flatten_cons, ih, List.replicate_succ]; rfl
theorem w_rep {c : Nat} {n : Int} {Q : Str → Prop} {E : Str → Prop} (h1 : -(2 ^ 20) < n) (h2 : n < 2 ^ 20) (q : Q (S (List.replicate n.toNat c))) : repSW (S [c]) n Q E := by
  refine ⟨⟨by omega, by omega, ?_⟩, ?_⟩
  · rw [S_length, List.length_singleton, Nat.one_mul]
    have := big_line
    omega
  · have e : repS (S [c]) n = S (List.replicate n.toNat c) := TL.ext_tl (flat_rep c n.toNat)
    rw [e]; exact q
theorem log_small {i : Int} (h1 : -(2 ^ 64) < i) (h2 : i < 2 ^ 64) : i.natAbs.log2 < 1920 := by
  by_cases h : i.natAbs = 0
  · rw [h]; decide
  · rw [Nat.log2_lt h]
    exact Nat.lt_of_lt_of_le (show i.natAbs < 2 ^ 64 by omega) (Nat.pow_le_pow_right (by decide) (by decide))
theorem w_str {n : Nat} {Q : Str → Prop} {E : Str → Prop} (h : n < 2 ^ 64) (q : Q (S (TL.numL n))) : strW (n : Int) Q E :=
  ⟨log_small (by omega) (by omega), by rw [SX.num_S]; exact q⟩
theorem w_strI {i : Int} {Q : Str → Prop} {E : Str → Prop} (h0 : 0 ≤ i) (h : i < 2 ^ 64) (q : Q (S (TL.numL i.toNat))) : strW i Q E := by
  have e : i = (i.toNat : Int) := by omega
  rw [e]
  exact w_str (by omega) q
theorem neg_S (n : Nat) : Str.ofString (toString (-((n : Int) + 1))) = S (45 :: TL.numL (n + 1)) := by
  have e : toString (-((n : Int) + 1)) = "-" ++ toString ((n : Int) + 1) := by
    have : (-((n : Int) + 1)) = Int.negSucc n := by omega
    rw [this]
    rfl
  apply TL.ext_tl
  rw [TL.tl_ofString, e, String.toList_append, List.map_append]
  have e2 := TL.tl_num (n + 1)
  rw [TL.tl_ofString] at e2
  have e3 : toString ((n : Int) + 1) = toString (((n + 1 : Nat) : Int)) := by rfl
  rw [e3, e2]
  rfl
/-- the text of a whole number -/
def intL (i : Int) : List Nat := (if i < 0 then [45] else []) ++ TL.numL i.natAbs
theorem w_strZ {i : Int} {Q : Str → Prop} {E : Str → Prop} (h1 : -(2 ^ 64) < i) (h2 : i < 2 ^ 64) (q : Q (S (intL i))) : strW i Q E := by
  by_cases h : i < 0
  · have e : i = -(((i.natAbs - 1 : Nat) : Int) + 1) := by omega
    refine ⟨log_small h1 h2, ?_⟩
    unfold intL at q
    rw [if_pos h] at q
    have e2 : i.natAbs = i.natAbs - 1 + 1 := by omega
    rw [e2] at q
    rw [e, neg_S]
    have e3 : (-(((i.natAbs - 1 : Nat) : Int) + 1)).natAbs = i.natAbs := by omega
    exact q
  · refine w_strI (by omega) h2 ?_
    unfold intL at q
    rw [if_neg h] at q
    have e : i.toNat = i.natAbs := by omega
    rw [e]
    exact q
/-! fixed widths -/
def padL (w : Nat) (l : List Nat) : List Nat := List.replicate (w - l.length) 48 ++ l
def fw : Nat → Nat → List Nat
  | 0, _ => []
  | p + 1, n => fw p (n / 10) ++ [48 + n % 10]
theorem fw_len : ∀ p n, (fw p n).length = p
  | 0, _ => rfl
  | p + 1, n => by rw [fw, List.length_append, fw_len p]; rfl
theorem fw_zero : ∀ p, fw p 0 = List.replicate p 48
  | 0 => rfl
  | p + 1 => by
    rw [fw, Nat.zero_div, fw_zero p]
    show List.replicate p 48 ++ [48] = _
    rw [← List.replicate_succ']
theorem fw_digits : ∀ p n, ∀ c ∈ fw p n, 48 ≤ c ∧ c ≤ 57
  | 0, _, c, h => nomatch h
  | p + 1, n, c, h => by
    rw [fw] at h
    rcases List.mem_append.mp h with h | h
    · exact fw_digits p _ c h
    · rw [List.mem_singleton.mp h]
      have := Nat.mod_lt n (show 0 < 10 by decide)
      omega
theorem fw_mod : ∀ p n, fw p (n % 10 ^ p) = fw p n
  | 0, _ => rfl
  | p + 1, n => by
    rw [fw, fw]
    have e1 : n % 10 ^ (p + 1) / 10 = n / 10 % 10 ^ p := by
      rw [Nat.pow_succ, Nat.mul_comm, Nat.mod_mul_right_div_self]
    have e2 : n % 10 ^ (p + 1) % 10 = n % 10 := by
      rw [Nat.pow_succ, Nat.mul_comm]
      exact Nat.mod_mul_right_mod n 10 (10 ^ p)
    rw [e1, e2, fw_mod p]
theorem padL_snoc (w : Nat) (l : List Nat) (d : Nat) : padL (w + 1) (l ++ [d]) = padL w l ++ [d] := by
  unfold padL
  rw [List.length_append, List.length_singleton, List.append_assoc]
  congr 1
  congr 1
  omega
/-- digits padded to one more than p places -/
theorem pad_split : ∀ p n, padL (p + 1) (TL.numL n) = TL.numL (n / 10 ^ p) ++ fw p n
  | 0, n => by
    have h : 1 - (TL.numL n).length = 0 := by
      have := List.length_pos_iff.mpr (TL.numL_ne n)
      omega
    unfold padL
    rw [h, Nat.pow_zero, Nat.div_one, fw, List.append_nil]
    rfl
  | p + 1, n => by
    by_cases h : 10 ≤ n
    · rw [TL.numL_step h, padL_snoc, pad_split p (n / 10), fw, List.append_assoc, Nat.div_div_eq_div_mul, Nat.pow_succ, Nat.mul_comm 10]
    · have hn : n < 10 := by omega
      have e1 : n / 10 ^ (p + 1) = 0 := Nat.div_eq_of_lt (Nat.lt_of_lt_of_le hn (by
        rw [Nat.pow_succ]
        exact Nat.le_mul_of_pos_left 10 (Nat.pow_pos (by decide))))
      rw [TL.numL_lt hn, e1, fw, Nat.div_eq_of_lt hn, fw_zero, TL.numL_lt (by decide), Nat.mod_eq_of_lt hn]
      unfold padL
      rw [List.length_singleton]
      show List.replicate (p + 1) 48 ++ [48 + n] = [48 + 0] ++ (List.replicate p 48 ++ [48 + n])
      rw [← List.append_assoc]
      rfl
theorem pad_fw {p n : Nat} (hp : 0 < p) (h : n < 10 ^ p) : padL p (TL.numL n) = fw p n := by
  obtain ⟨q, rfl⟩ : ∃ q, p = q + 1 := ⟨p - 1, by omega⟩
  rw [pad_split q n, fw]
  have e : n / 10 ^ q < 10 := by
    rw [Nat.div_lt_iff_lt_mul (Nat.pow_pos (by decide)), Nat.mul_comm, ← Nat.pow_succ]
    exact h
  rw [TL.numL_lt e]
  clear hp
  induction q generalizing n with
  | zero =>
    rw [Nat.pow_zero, Nat.div_one, fw, fw, Nat.mod_eq_of_lt (by simpa using h)]
    rfl
  | succ q ih =>
    have e3 : n / 10 < 10 ^ (q + 1) := by
      rw [Nat.div_lt_iff_lt_mul (by decide), ← Nat.pow_succ]; exact h
    have e4 : n / 10 / 10 ^ q = n / 10 ^ (q + 1) := by
      rw [Nat.div_div_eq_div_mul, Nat.pow_succ, Nat.mul_comm 10]
    have := ih e3 (by rw [e4]; exact e)
    rw [e4] at this
    rw [fw, ← List.append_assoc, this, fw]
theorem numL_len64 {n : Nat} (h : n < 2 ^ 64) : (TL.numL n).length ≤ 20 := TL.numL_len (by decide) (Nat.lt_trans h (by decide))
/-- a number's digits, the last p behind a point -/
def figL (neg : Bool) (n p : Nat) : List Nat := (if neg then [45] else []) ++ (TL.numL (n / 10 ^ p) ++ (if p = 0 then [] else 46 :: fw p n))
/-! reading -/
def cnt (l : List Nat) : Bool := decide (1 ≤ l.length ∧ l.length ≤ 9) && l.all fun c => decide (48 ≤ c ∧ c ≤ 57)
theorem w_int {l : List Nat} {Q : Int → Prop} {E : Str → Prop} (h : NumText.AllDigits l) (h0 : l ≠ []) (h1 : l.length ≤ 600) (q : Q (NumText.digitsVal l : Int)) : intSW (S l) Q E :=
  ⟨_, intText_digits (x := S l) h h0 (by rw [S_length]; omega), by rw [S_length]; omega, q⟩
theorem cnt_digits {l : List Nat} (h : cnt l = true) : NumText.AllDigits l ∧ l ≠ [] ∧ l.length ≤ 9 := by
  unfold cnt at h
  rw [Bool.and_eq_true, decide_eq_true_eq, List.all_eq_true] at h
  refine ⟨fun c hc => by simpa using h.2 c hc, fun e => ?_, h.1.2⟩
  rw [e] at h
  exact absurd h.1.1 (by simp)
theorem val_app (a b : List Nat) : NumText.digitsVal (a ++ b) = NumText.digitsVal a * 10 ^ b.length + NumText.digitsVal b := by
  unfold NumText.digitsVal
  rw [List.foldl_append]
  have key : ∀ (b : List Nat) (s : Nat), b.foldl (fun acc c => acc * 10 + (c - 48)) s = s * 10 ^ b.length + b.foldl (fun acc c => acc * 10 + (c - 48)) 0 := by
    intro b
    induction b with
    | nil => intro s; simp
    | cons c b ih =>
      intro s
      rw [List.foldl_cons, List.foldl_cons, ih, ih (0 * 10 + (c - 48)), List.length_cons, Nat.pow_succ]
      rw [Nat.zero_mul, Nat.zero_add, Nat.add_mul, Nat.mul_assoc, Nat.mul_comm 10, Nat.add_assoc]
  rw [key b]
theorem val_fw : ∀ p n, NumText.digitsVal (fw p n) = n % 10 ^ p
  | 0, n => by rw [Nat.pow_zero, Nat.mod_one]; rfl
  | p + 1, n => by
    rw [fw, val_app, val_fw p]
    have e : NumText.digitsVal [48 + n % 10] = n % 10 := by
      show 0 * 10 + (48 + n % 10 - 48) = _
      omega
    rw [e, List.length_singleton, Nat.pow_one, Nat.pow_succ, Nat.mul_comm (10 ^ p) 10, Nat.mod_mul, Nat.mul_comm, Nat.add_comm]
theorem val_ten (p : Nat) : NumText.digitsVal (49 :: List.replicate p 48) = 10 ^ p := by
  have e := val_app [49] (fw p 0)
  rw [val_fw, Nat.zero_mod, fw_len, fw_zero] at e
  rw [show (49 :: List.replicate p 48) = [49] ++ List.replicate p 48 from rfl, e]
  show (0 * 10 + (49 - 48)) * 10 ^ p + 0 = _
  omega
end Wl
namespace K1
open PySem PySem.Spec PyProof.Rows L2 Wl
def topS (i : Nat) : Stmt := PySem.Challenge.pw_statstack_k01_numbers_in_least_terms.main.body.getD i (.Pass ⟨0, 0, 0, 0⟩)
abbrev DefAt (K : PySem.W.Frag) (x : Str) (st : Stmt) (dvs : List V) (f : Addr) (fd : FuncData) : Prop := FunD K x x (defArgs st) (defBody st) (defScope st) dvs [] f fd
section
variable {P : Program} {w : World} {K : PySem.W.Frag} {mg : Str → Option Value} {base : Heap} {ca : Str → Addr} {T : List (Addr × FO)}
/-! common_whole -/
abbrev s_common_whole : Stmt := topS 4
def w_common_whole (a : Int × Int) : W Int := fun Q E =>
  (M.bd (S := (Int × Int)) (T := Empty) (R := Int) (fun (N : (Int × Int) → Prop) (R : Int → Prop) (E : Str → Prop) => M.whl (S := (Int × Int)) (R := Int) (fun s1 => fun Q E => Q (!decide (s1.2 = (0 : Int)))) (fun s1 => (M.bd (S := (Int × Int)) (T := (Int × Int)) (R := Int) (fun (N : (Int × Int) → Prop) (R : Int → Prop) (E : Str → Prop) => (ModOk s1.1 s1.2 ∧ N (s1.2, (Int.fmod s1.1 s1.2))))
 (fun z2 => (fun (N : (Int × Int) → Prop) (R : Int → Prop) (E : Str → Prop) => N (z2.1, z2.2))))) (a.1, a.2) N R E)
 (fun s1 => (fun (N : Empty → Prop) (R : Int → Prop) (E : Str → Prop) => R s1.1))) (fun _ => False) Q E
abbrev sg_common_whole : Sg := Sg.mk (A := Int × Int) (R := Int) (fun a => [.d (iD a.1), .d (iD a.2)]) iD w_common_whole
theorem sc_common_whole : FnScope [Str.ofString "one", Str.ofString "other"] [Str.ofString "one", Str.ofString "other"] (defScope s_common_whole) := C8.fnScope_by (by decide +kernel)
theorem ok_common_whole {f : Addr} {fd : FuncData} (F : DefAt K "common_whole" s_common_whole [] f fd) :
    FnOk P w K mg base (L2.CX P w) 1 f fd [Str.ofString "one", Str.ofString "other"] (Sg.sp sg_common_whole K ca T) := by
  refine fn_mk sg_common_whole (g := fun z : Empty => ([] : List Sl)) (mb := fun a => fun _ R' E => w_common_whole a R' E) F sc_common_whole (fun _ => rfl) (fun a Q E h => h) (fun cdv A outer s H E hr a => ?_)
  exact ss_eqv (ss_cons (s1_eqv (m2 := (fun (N : (Int × Int) → Prop) (R : Int → Prop) (E : Str → Prop) => M.whl (S := (Int × Int)) (R := Int) (fun s1 => fun Q E => Q (!decide (s1.2 = (0 : Int)))) (fun s1 => (M.bd (S := (Int × Int)) (T := (Int × Int)) (R := Int) (fun (N : (Int × Int) → Prop) (R : Int → Prop) (E : Str → Prop) => (ModOk s1.1 s1.2 ∧ N (s1.2, (Int.fmod s1.1 s1.2))))
 (fun z2 => (fun (N : (Int × Int) → Prop) (R : Int → Prop) (E : Str → Prop) => N (z2.1, z2.2))))) (a.1, a.2) N R E)) (st_whl (S := (Int × Int)) (g := (fun s1 : (Int × Int) => [.d (iD s1.1), .d (iD s1.2)])) (a.1, a.2) (.same (.same .nil)) (mc := fun s1 => fun Q E => Q (!decide (s1.2 = (0 : Int)))) (fun s1 => em_eqvT (tm_cmp (op_neD (hu_ct _)) (o_ne eqf_int) (em_var 1 iD s1.2) em_int) rfl) (fun s1 => (ss_cons (s1_eqv (m2 := (fun (N : (Int × Int) → Prop) (R : Int → Prop) (E : Str → Prop) => (ModOk s1.1 s1.2 ∧ N (s1.2, (Int.fmod s1.1 s1.2))))) (st_par 0 1 (em_var 1 iD s1.2) (em_bin op_modX o_IIC (em_var 0 iD s1.1) (em_var 1 iD s1.2)) (hij := by decide) (hx := rfl) (hy := rfl) (hw := rfl)) rfl)
 (fun z2 => (ss_done (T := (Int × Int)) (z2.1, z2.2) (.same (.same .nil))))))) rfl)
 (fun s1 => (ss_eqv (m2 := (fun (N : Empty → Prop) (R : Int → Prop) (E : Str → Prop) => R s1.1)) (ss_one (st_ret (em_var 0 iD s1.1))) rfl))) rfl
/-! part_of -/
abbrev s_part_of : Stmt := topS 5
def w_part_of (a : Int × Int) : W (Int × Int) := fun Q E =>
  (M.bd (S := Unit) (T := Empty) (R := (Int × Int)) (fun (N : Unit → Prop) (R : (Int × Int) → Prop) (E : Str → Prop) => M.ite (decide (a.2 = (0 : Int))) (M.en (fun (N : Empty → Prop) (R : (Int × Int) → Prop) (E : Str → Prop) => E (Str.ofString "NumberError"))) (fun (N : Unit → Prop) (R : (Int × Int) → Prop) (E : Str → Prop) => N ()) N R E)
 (fun s3 => (M.bd (S := Int) (T := Empty) (R := (Int × Int)) (fun (N : Int → Prop) (R : (Int × Int) → Prop) (E : Str → Prop) => W.ite (decide (a.2 < (0 : Int))) (fun Q E => Q ((0 : Int) - (1 : Int))) (fun Q E => Q (1 : Int)) (fun v5 => N v5) E)
 (fun z4 => (M.bd (S := Int) (T := Empty) (R := (Int × Int)) (fun (N : Int → Prop) (R : (Int × Int) → Prop) (E : Str → Prop) => w_common_whole ((absI a.1), (absI a.2)) (fun r7 => N r7) E)
 (fun z6 => (fun (N : Empty → Prop) (R : (Int × Int) → Prop) (E : Str → Prop) => (MulOk z4 a.1 ∧ (DivOk (z4 * a.1) z6 ∧ (MulOk z4 a.2 ∧ (DivOk (z4 * a.2) z6 ∧ R ((Int.fdiv (z4 * a.1) z6), (Int.fdiv (z4 * a.2) z6))))))))))))) (fun _ => False) Q E
abbrev sg_part_of : Sg := Sg.mk (A := Int × Int) (R := (Int × Int)) (fun a => [.d (iD a.1), .d (iD a.2)]) (t2 iD iD) w_part_of
theorem sc_part_of : FnScope [Str.ofString "top", Str.ofString "bottom", Str.ofString "sign", Str.ofString "both"] [Str.ofString "top", Str.ofString "bottom"] (defScope s_part_of) := C8.fnScope_by (by decide +kernel)
theorem ok_part_of {f : Addr} {fd : FuncData} (F : DefAt K "part_of" s_part_of [.int 1] f fd) (h_abs : mg "abs" = none) (c_common_whole : Cal P w K mg base ca T 1 "common_whole" sg_common_whole []) (e_NumberError : Rz K mg ca "NumberError") :
    FnOk P w K mg base (L2.CX P w) 2 f fd [Str.ofString "top", Str.ofString "bottom"] (Sg.sp sg_part_of K ca T) := by
  refine fn_mk sg_part_of (g := fun z : Empty => ([] : List Sl)) (mb := fun a => fun _ R' E => w_part_of a R' E) F sc_part_of (fun _ => rfl) (fun a Q E h => h) (fun cdv A outer s H E hr a => ?_)
  exact ss_eqv (ss_cons (s1_eqv (m2 := (fun (N : Unit → Prop) (R : (Int × Int) → Prop) (E : Str → Prop) => M.ite (decide (a.2 = (0 : Int))) (M.en (fun (N : Empty → Prop) (R : (Int × Int) → Prop) (E : Str → Prop) => E (Str.ofString "NumberError"))) (fun (N : Unit → Prop) (R : (Int × Int) → Prop) (E : Str → Prop) => N ()) N R E)) (st_if (g := (fun s3 : Unit => [.d (iD a.1), .d (iD a.2), .un, .un])) (tm_cmp (op_eqD (hu_ct _)) (o_eq eqf_int) (em_var 1 iD a.2) em_int) (ss_end (ss_eqv (m2 := (fun (N : Empty → Prop) (R : (Int × Int) → Prop) (E : Str → Prop) => E (Str.ofString "NumberError"))) (ss_one (st_raise' e_NumberError)) rfl)) (ss_done (T := Unit) () (.same (.same (.same (.same .nil)))))) rfl)
 (fun s3 => (ss_cons (s1_eqv (m2 := (fun (N : Int → Prop) (R : (Int × Int) → Prop) (E : Str → Prop) => W.ite (decide (a.2 < (0 : Int))) (fun Q E => Q ((0 : Int) - (1 : Int))) (fun Q E => Q (1 : Int)) (fun v5 => N v5) E)) (st_set 2 (em_if (tm_cmp op_lt o_IB (em_var 1 iD a.2) em_int) (em_bin op_sub o_II em_int em_int) em_int)) rfl)
 (fun z4 => (ss_cons (s1_eqv (m2 := (fun (N : Int → Prop) (R : (Int × Int) → Prop) (E : Str → Prop) => w_common_whole ((absI a.1), (absI a.2)) (fun r7 => N r7) E)) (st_set 3 (em_call (S := sg_common_whole) c_common_whole (ha := (am_cons (em_callB call_abs c_abs (hm := h_abs) (hv := bt_abs) (ha := (am_cons (em_var 0 iD a.1) am_nil))) (am_cons (em_callB call_abs c_abs (hm := h_abs) (hv := bt_abs) (ha := (am_cons (em_var 1 iD a.2) am_nil))) am_nil))) (g := fun b => (b.1, b.2.1)) (hf := fun _ => rfl))) rfl)
 (fun z6 => (ss_eqv (m2 := (fun (N : Empty → Prop) (R : (Int × Int) → Prop) (E : Str → Prop) => (MulOk z4 a.1 ∧ (DivOk (z4 * a.1) z6 ∧ (MulOk z4 a.2 ∧ (DivOk (z4 * a.2) z6 ∧ R ((Int.fdiv (z4 * a.1) z6), (Int.fdiv (z4 * a.2) z6)))))))) (ss_one (st_ret (em_tup (fc := (t2 iD iD)) (am_cons (em_bin op_fdivX o_IIC (em_bin op_mulX o_IIC (em_var 2 iD z4) (em_var 0 iD a.1)) (em_var 3 iD z6)) (am_cons (em_bin op_fdivX o_IIC (em_bin op_mulX o_IIC (em_var 2 iD z4) (em_var 1 iD a.2)) (em_var 3 iD z6)) am_nil)) (fun b => (b.1, b.2.1)) (fun b => ⟨[iD b.1, iD b.2.1], rfl, rfl, Nat.le_of_ble_eq_true rfl⟩)))) rfl))))))) rfl
/-! sum_of_two -/
abbrev s_sum_of_two : Stmt := topS 6
def w_sum_of_two (a : (Int × Int) × (Int × Int)) : W (Int × Int) := fun Q E =>
  (fun (N : Empty → Prop) (R : (Int × Int) → Prop) (E : Str → Prop) => (MulOk a.1.1 a.2.2 ∧ (MulOk a.2.1 a.1.2 ∧ (MulOk a.1.2 a.2.2 ∧ w_part_of (((a.1.1 * a.2.2) + (a.2.1 * a.1.2)), (a.1.2 * a.2.2)) (fun r8 => R r8) E)))) (fun _ => False) Q E
abbrev sg_sum_of_two : Sg := Sg.mk (A := (Int × Int) × (Int × Int)) (R := (Int × Int)) (fun a => [.d ((t2 iD iD) a.1), .d ((t2 iD iD) a.2)]) (t2 iD iD) w_sum_of_two
theorem sc_sum_of_two : FnScope [Str.ofString "one", Str.ofString "other"] [Str.ofString "one", Str.ofString "other"] (defScope s_sum_of_two) := C8.fnScope_by (by decide +kernel)
theorem ok_sum_of_two {f : Addr} {fd : FuncData} (F : DefAt K "sum_of_two" s_sum_of_two [] f fd) (c_part_of : Cal P w K mg base ca T 2 "part_of" sg_part_of []) :
    FnOk P w K mg base (L2.CX P w) 3 f fd [Str.ofString "one", Str.ofString "other"] (Sg.sp sg_sum_of_two K ca T) := by
  refine fn_mk sg_sum_of_two (g := fun z : Empty => ([] : List Sl)) (mb := fun a => fun _ R' E => w_sum_of_two a R' E) F sc_sum_of_two (fun _ => rfl) (fun a Q E h => h) (fun cdv A outer s H E hr a => ?_)
  exact ss_eqv (ss_eqv (m2 := (fun (N : Empty → Prop) (R : (Int × Int) → Prop) (E : Str → Prop) => (MulOk a.1.1 a.2.2 ∧ (MulOk a.2.1 a.1.2 ∧ (MulOk a.1.2 a.2.2 ∧ w_part_of (((a.1.1 * a.2.2) + (a.2.1 * a.1.2)), (a.1.2 * a.2.2)) (fun r8 => R r8) E))))) (ss_one (st_ret (em_call (S := sg_part_of) c_part_of (ha := (am_cons (em_bin op_add o_II (em_bin op_mulX o_IIC (em_at ta_20 (em_var 0 (t2 iD iD) a.1)) (em_at ta_21 (em_var 1 (t2 iD iD) a.2))) (em_bin op_mulX o_IIC (em_at ta_20 (em_var 1 (t2 iD iD) a.2)) (em_at ta_21 (em_var 0 (t2 iD iD) a.1)))) (am_cons (em_bin op_mulX o_IIC (em_at ta_21 (em_var 0 (t2 iD iD) a.1)) (em_at ta_21 (em_var 1 (t2 iD iD) a.2))) am_nil))) (g := fun b => (b.1, b.2.1)) (hf := fun _ => rfl)))) rfl) rfl
/-! less_of -/
abbrev s_less_of : Stmt := topS 7
def w_less_of (a : (Int × Int) × (Int × Int)) : W (Int × Int) := fun Q E =>
  (fun (N : Empty → Prop) (R : (Int × Int) → Prop) (E : Str → Prop) => (MulOk a.1.1 a.2.2 ∧ (MulOk a.2.1 a.1.2 ∧ (MulOk a.1.2 a.2.2 ∧ w_part_of (((a.1.1 * a.2.2) - (a.2.1 * a.1.2)), (a.1.2 * a.2.2)) (fun r9 => R r9) E)))) (fun _ => False) Q E
abbrev sg_less_of : Sg := Sg.mk (A := (Int × Int) × (Int × Int)) (R := (Int × Int)) (fun a => [.d ((t2 iD iD) a.1), .d ((t2 iD iD) a.2)]) (t2 iD iD) w_less_of
theorem sc_less_of : FnScope [Str.ofString "one", Str.ofString "other"] [Str.ofString "one", Str.ofString "other"] (defScope s_less_of) := C8.fnScope_by (by decide +kernel)
theorem ok_less_of {f : Addr} {fd : FuncData} (F : DefAt K "less_of" s_less_of [] f fd) (c_part_of : Cal P w K mg base ca T 2 "part_of" sg_part_of []) :
    FnOk P w K mg base (L2.CX P w) 3 f fd [Str.ofString "one", Str.ofString "other"] (Sg.sp sg_less_of K ca T) := by
  refine fn_mk sg_less_of (g := fun z : Empty => ([] : List Sl)) (mb := fun a => fun _ R' E => w_less_of a R' E) F sc_less_of (fun _ => rfl) (fun a Q E h => h) (fun cdv A outer s H E hr a => ?_)
  exact ss_eqv (ss_eqv (m2 := (fun (N : Empty → Prop) (R : (Int × Int) → Prop) (E : Str → Prop) => (MulOk a.1.1 a.2.2 ∧ (MulOk a.2.1 a.1.2 ∧ (MulOk a.1.2 a.2.2 ∧ w_part_of (((a.1.1 * a.2.2) - (a.2.1 * a.1.2)), (a.1.2 * a.2.2)) (fun r9 => R r9) E))))) (ss_one (st_ret (em_call (S := sg_part_of) c_part_of (ha := (am_cons (em_bin op_sub o_II (em_bin op_mulX o_IIC (em_at ta_20 (em_var 0 (t2 iD iD) a.1)) (em_at ta_21 (em_var 1 (t2 iD iD) a.2))) (em_bin op_mulX o_IIC (em_at ta_20 (em_var 1 (t2 iD iD) a.2)) (em_at ta_21 (em_var 0 (t2 iD iD) a.1)))) (am_cons (em_bin op_mulX o_IIC (em_at ta_21 (em_var 0 (t2 iD iD) a.1)) (em_at ta_21 (em_var 1 (t2 iD iD) a.2))) am_nil))) (g := fun b => (b.1, b.2.1)) (hf := fun _ => rfl)))) rfl) rfl
/-! times_of -/
abbrev s_times_of : Stmt := topS 8
def w_times_of (a : (Int × Int) × (Int × Int)) : W (Int × Int) := fun Q E =>
  (fun (N : Empty → Prop) (R : (Int × Int) → Prop) (E : Str → Prop) => (MulOk a.1.1 a.2.1 ∧ (MulOk a.1.2 a.2.2 ∧ w_part_of ((a.1.1 * a.2.1), (a.1.2 * a.2.2)) (fun r10 => R r10) E))) (fun _ => False) Q E
abbrev sg_times_of : Sg := Sg.mk (A := (Int × Int) × (Int × Int)) (R := (Int × Int)) (fun a => [.d ((t2 iD iD) a.1), .d ((t2 iD iD) a.2)]) (t2 iD iD) w_times_of
theorem sc_times_of : FnScope [Str.ofString "one", Str.ofString "other"] [Str.ofString "one", Str.ofString "other"] (defScope s_times_of) := C8.fnScope_by (by decide +kernel)
theorem ok_times_of {f : Addr} {fd : FuncData} (F : DefAt K "times_of" s_times_of [] f fd) (c_part_of : Cal P w K mg base ca T 2 "part_of" sg_part_of []) :
    FnOk P w K mg base (L2.CX P w) 3 f fd [Str.ofString "one", Str.ofString "other"] (Sg.sp sg_times_of K ca T) := by
  refine fn_mk sg_times_of (g := fun z : Empty => ([] : List Sl)) (mb := fun a => fun _ R' E => w_times_of a R' E) F sc_times_of (fun _ => rfl) (fun a Q E h => h) (fun cdv A outer s H E hr a => ?_)
  exact ss_eqv (ss_eqv (m2 := (fun (N : Empty → Prop) (R : (Int × Int) → Prop) (E : Str → Prop) => (MulOk a.1.1 a.2.1 ∧ (MulOk a.1.2 a.2.2 ∧ w_part_of ((a.1.1 * a.2.1), (a.1.2 * a.2.2)) (fun r10 => R r10) E)))) (ss_one (st_ret (em_call (S := sg_part_of) c_part_of (ha := (am_cons (em_bin op_mulX o_IIC (em_at ta_20 (em_var 0 (t2 iD iD) a.1)) (em_at ta_20 (em_var 1 (t2 iD iD) a.2))) (am_cons (em_bin op_mulX o_IIC (em_at ta_21 (em_var 0 (t2 iD iD) a.1)) (em_at ta_21 (em_var 1 (t2 iD iD) a.2))) am_nil))) (g := fun b => (b.1, b.2.1)) (hf := fun _ => rfl)))) rfl) rfl
/-! divided -/
abbrev s_divided : Stmt := topS 9
def w_divided (a : (Int × Int) × (Int × Int)) : W (Int × Int) := fun Q E =>
  (fun (N : Empty → Prop) (R : (Int × Int) → Prop) (E : Str → Prop) => (MulOk a.1.1 a.2.2 ∧ (MulOk a.1.2 a.2.1 ∧ w_part_of ((a.1.1 * a.2.2), (a.1.2 * a.2.1)) (fun r11 => R r11) E))) (fun _ => False) Q E
abbrev sg_divided : Sg := Sg.mk (A := (Int × Int) × (Int × Int)) (R := (Int × Int)) (fun a => [.d ((t2 iD iD) a.1), .d ((t2 iD iD) a.2)]) (t2 iD iD) w_divided
theorem sc_divided : FnScope [Str.ofString "one", Str.ofString "other"] [Str.ofString "one", Str.ofString "other"] (defScope s_divided) := C8.fnScope_by (by decide +kernel)
theorem ok_divided {f : Addr} {fd : FuncData} (F : DefAt K "divided" s_divided [] f fd) (c_part_of : Cal P w K mg base ca T 2 "part_of" sg_part_of []) :
    FnOk P w K mg base (L2.CX P w) 3 f fd [Str.ofString "one", Str.ofString "other"] (Sg.sp sg_divided K ca T) := by
  refine fn_mk sg_divided (g := fun z : Empty => ([] : List Sl)) (mb := fun a => fun _ R' E => w_divided a R' E) F sc_divided (fun _ => rfl) (fun a Q E h => h) (fun cdv A outer s H E hr a => ?_)
  exact ss_eqv (ss_eqv (m2 := (fun (N : Empty → Prop) (R : (Int × Int) → Prop) (E : Str → Prop) => (MulOk a.1.1 a.2.2 ∧ (MulOk a.1.2 a.2.1 ∧ w_part_of ((a.1.1 * a.2.2), (a.1.2 * a.2.1)) (fun r11 => R r11) E)))) (ss_one (st_ret (em_call (S := sg_part_of) c_part_of (ha := (am_cons (em_bin op_mulX o_IIC (em_at ta_20 (em_var 0 (t2 iD iD) a.1)) (em_at ta_21 (em_var 1 (t2 iD iD) a.2))) (am_cons (em_bin op_mulX o_IIC (em_at ta_21 (em_var 0 (t2 iD iD) a.1)) (em_at ta_20 (em_var 1 (t2 iD iD) a.2))) am_nil))) (g := fun b => (b.1, b.2.1)) (hf := fun _ => rfl)))) rfl) rfl
/-! is_below -/
abbrev s_is_below : Stmt := topS 10
def w_is_below (a : (Int × Int) × (Int × Int)) : W Bool := fun Q E =>
  (fun (N : Empty → Prop) (R : Bool → Prop) (E : Str → Prop) => (MulOk a.1.1 a.2.2 ∧ (MulOk a.2.1 a.1.2 ∧ R (decide ((a.1.1 * a.2.2) < (a.2.1 * a.1.2)))))) (fun _ => False) Q E
abbrev sg_is_below : Sg := Sg.mk (A := (Int × Int) × (Int × Int)) (R := Bool) (fun a => [.d ((t2 iD iD) a.1), .d ((t2 iD iD) a.2)]) bD w_is_below
theorem sc_is_below : FnScope [Str.ofString "one", Str.ofString "other"] [Str.ofString "one", Str.ofString "other"] (defScope s_is_below) := C8.fnScope_by (by decide +kernel)
theorem ok_is_below {f : Addr} {fd : FuncData} (F : DefAt K "is_below" s_is_below [] f fd) :
    FnOk P w K mg base (L2.CX P w) 1 f fd [Str.ofString "one", Str.ofString "other"] (Sg.sp sg_is_below K ca T) := by
  refine fn_mk sg_is_below (g := fun z : Empty => ([] : List Sl)) (mb := fun a => fun _ R' E => w_is_below a R' E) F sc_is_below (fun _ => rfl) (fun a Q E h => h) (fun cdv A outer s H E hr a => ?_)
  exact ss_eqv (ss_eqv (m2 := (fun (N : Empty → Prop) (R : Bool → Prop) (E : Str → Prop) => (MulOk a.1.1 a.2.2 ∧ (MulOk a.2.1 a.1.2 ∧ R (decide ((a.1.1 * a.2.2) < (a.2.1 * a.1.2))))))) (ss_one (st_ret (em_cmp op_lt o_IB (em_bin op_mulX o_IIC (em_at ta_20 (em_var 0 (t2 iD iD) a.1)) (em_at ta_21 (em_var 1 (t2 iD iD) a.2))) (em_bin op_mulX o_IIC (em_at ta_20 (em_var 1 (t2 iD iD) a.2)) (em_at ta_21 (em_var 0 (t2 iD iD) a.1)))))) rfl) rfl
/-! sum_parts -/
abbrev s_sum_parts : Stmt := topS 11
def w_sum_parts (a : (List (Int × Int))) : W (Int × Int) := fun Q E =>
  (M.bd (S := (Int × Int)) (T := Empty) (R := (Int × Int)) (fun (N : (Int × Int) → Prop) (R : (Int × Int) → Prop) (E : Str → Prop) => N ((0 : Int), (1 : Int)))
 (fun z12 => (M.bd (S := ((Int × Int))) (T := Empty) (R := (Int × Int)) (fun (N : ((Int × Int)) → Prop) (R : (Int × Int) → Prop) (E : Str → Prop) => M.for (S := ((Int × Int))) (R := (Int × Int)) a (z12) (fun s13 => fun x14 : (Int × Int) => (M.bd (S := (Int × Int)) (T := ((Int × Int))) (R := (Int × Int)) (fun (N : (Int × Int) → Prop) (R : (Int × Int) → Prop) (E : Str → Prop) => w_sum_of_two (s13, x14) (fun r16 => N r16) E)
 (fun z15 => (fun (N : ((Int × Int)) → Prop) (R : (Int × Int) → Prop) (E : Str → Prop) => N (z15))))) N R E)
 (fun s13 => (fun (N : Empty → Prop) (R : (Int × Int) → Prop) (E : Str → Prop) => R s13))))) (fun _ => False) Q E
abbrev sg_sum_parts : Sg := Sg.mk (A := (List (Int × Int))) (R := (Int × Int)) (fun a => [.d ((lD (t2 iD iD)) a)]) (t2 iD iD) w_sum_parts
theorem sc_sum_parts : FnScope [Str.ofString "rows", Str.ofString "found", Str.ofString "one"] [Str.ofString "rows"] (defScope s_sum_parts) := C8.fnScope_by (by decide +kernel)
theorem ok_sum_parts {f : Addr} {fd : FuncData} (F : DefAt K "sum_parts" s_sum_parts [] f fd) (c_sum_of_two : Cal P w K mg base ca T 3 "sum_of_two" sg_sum_of_two []) :
    FnOk P w K mg base (L2.CX P w) 4 f fd [Str.ofString "rows"] (Sg.sp sg_sum_parts K ca T) := by
  refine fn_mk sg_sum_parts (g := fun z : Empty => ([] : List Sl)) (mb := fun a => fun _ R' E => w_sum_parts a R' E) F sc_sum_parts (fun _ => rfl) (fun a Q E h => h) (fun cdv A outer s H E hr a => ?_)
  exact ss_eqv (ss_cons (s1_eqv (m2 := (fun (N : (Int × Int) → Prop) (R : (Int × Int) → Prop) (E : Str → Prop) => N ((0 : Int), (1 : Int)))) (st_set 1 (em_tup (fc := (t2 iD iD)) (am_cons em_int (am_cons em_int am_nil)) (fun b => (b.1, b.2.1)) (fun b => ⟨[iD b.1, iD b.2.1], rfl, rfl, Nat.le_of_ble_eq_true rfl⟩))) rfl)
 (fun z12 => (ss_cons (s1_eqv (m2 := (fun (N : ((Int × Int)) → Prop) (R : (Int × Int) → Prop) (E : Str → Prop) => M.for (S := ((Int × Int))) (R := (Int × Int)) a (z12) (fun s13 => fun x14 : (Int × Int) => (M.bd (S := (Int × Int)) (T := ((Int × Int))) (R := (Int × Int)) (fun (N : (Int × Int) → Prop) (R : (Int × Int) → Prop) (E : Str → Prop) => w_sum_of_two (s13, x14) (fun r16 => N r16) E)
 (fun z15 => (fun (N : ((Int × Int)) → Prop) (R : (Int × Int) → Prop) (E : Str → Prop) => N (z15))))) N R E)) (st_for (f := (t2 iD iD)) (S := ((Int × Int))) (g := (fun s13 : ((Int × Int)) => [.d ((lD (t2 iD iD)) a), .d ((t2 iD iD) s13), .un])) (z12) (im_list (em_var 0 (lD (t2 iD iD)) a)) (.same (.same (.same .nil))) (fun x14 => (gm_name 2 (hf := by first | exact .inl rfl | exact .inr rfl))) (fun s13 x14 => (ss_cons (s1_eqv (m2 := (fun (N : (Int × Int) → Prop) (R : (Int × Int) → Prop) (E : Str → Prop) => w_sum_of_two (s13, x14) (fun r16 => N r16) E)) (st_set 1 (em_call (S := sg_sum_of_two) c_sum_of_two (ha := (am_cons (em_var 1 (t2 iD iD) s13) (am_cons (em_var 2 (t2 iD iD) x14) am_nil))) (g := fun b => (b.1, b.2.1)) (hf := fun _ => rfl))) rfl)
 (fun z15 => (ss_done (T := ((Int × Int))) (z15) (.same (.same (.drop .nil)))))))) rfl)
 (fun s13 => (ss_eqv (m2 := (fun (N : Empty → Prop) (R : (Int × Int) → Prop) (E : Str → Prop) => R s13)) (ss_one (st_ret (em_var 1 (t2 iD iD) s13))) rfl))))) rfl
/-! sum_parts__2 -/
abbrev s_sum_parts__2 : Stmt := topS 11
def w_sum_parts__2 (a : (List (Int × Int))) : W (Int × Int) := fun Q E =>
  (M.bd (S := (Int × Int)) (T := Empty) (R := (Int × Int)) (fun (N : (Int × Int) → Prop) (R : (Int × Int) → Prop) (E : Str → Prop) => N ((0 : Int), (1 : Int)))
 (fun z17 => (M.bd (S := ((Int × Int))) (T := Empty) (R := (Int × Int)) (fun (N : ((Int × Int)) → Prop) (R : (Int × Int) → Prop) (E : Str → Prop) => M.for (S := ((Int × Int))) (R := (Int × Int)) a (z17) (fun s18 => fun x19 : (Int × Int) => (M.bd (S := (Int × Int)) (T := ((Int × Int))) (R := (Int × Int)) (fun (N : (Int × Int) → Prop) (R : (Int × Int) → Prop) (E : Str → Prop) => w_sum_of_two (s18, x19) (fun r21 => N r21) E)
 (fun z20 => (fun (N : ((Int × Int)) → Prop) (R : (Int × Int) → Prop) (E : Str → Prop) => N (z20))))) N R E)
 (fun s18 => (fun (N : Empty → Prop) (R : (Int × Int) → Prop) (E : Str → Prop) => R s18))))) (fun _ => False) Q E
abbrev sg_sum_parts__2 : Sg := Sg.mk (A := (List (Int × Int))) (R := (Int × Int)) (fun a => [.d ((tD (t2 iD iD)) a)]) (t2 iD iD) w_sum_parts__2
theorem sc_sum_parts__2 : FnScope [Str.ofString "rows", Str.ofString "found", Str.ofString "one"] [Str.ofString "rows"] (defScope s_sum_parts__2) := C8.fnScope_by (by decide +kernel)
theorem ok_sum_parts__2 {f : Addr} {fd : FuncData} (F : DefAt K "sum_parts" s_sum_parts__2 [] f fd) (c_sum_of_two : Cal P w K mg base ca T 3 "sum_of_two" sg_sum_of_two []) :
    FnOk P w K mg base (L2.CX P w) 4 f fd [Str.ofString "rows"] (Sg.sp sg_sum_parts__2 K ca T) := by
  refine fn_mk sg_sum_parts__2 (g := fun z : Empty => ([] : List Sl)) (mb := fun a => fun _ R' E => w_sum_parts__2 a R' E) F sc_sum_parts__2 (fun _ => rfl) (fun a Q E h => h) (fun cdv A outer s H E hr a => ?_)
  exact ss_eqv (ss_cons (s1_eqv (m2 := (fun (N : (Int × Int) → Prop) (R : (Int × Int) → Prop) (E : Str → Prop) => N ((0 : Int), (1 : Int)))) (st_set 1 (em_tup (fc := (t2 iD iD)) (am_cons em_int (am_cons em_int am_nil)) (fun b => (b.1, b.2.1)) (fun b => ⟨[iD b.1, iD b.2.1], rfl, rfl, Nat.le_of_ble_eq_true rfl⟩))) rfl)
 (fun z17 => (ss_cons (s1_eqv (m2 := (fun (N : ((Int × Int)) → Prop) (R : (Int × Int) → Prop) (E : Str → Prop) => M.for (S := ((Int × Int))) (R := (Int × Int)) a (z17) (fun s18 => fun x19 : (Int × Int) => (M.bd (S := (Int × Int)) (T := ((Int × Int))) (R := (Int × Int)) (fun (N : (Int × Int) → Prop) (R : (Int × Int) → Prop) (E : Str → Prop) => w_sum_of_two (s18, x19) (fun r21 => N r21) E)
 (fun z20 => (fun (N : ((Int × Int)) → Prop) (R : (Int × Int) → Prop) (E : Str → Prop) => N (z20))))) N R E)) (st_for (f := (t2 iD iD)) (S := ((Int × Int))) (g := (fun s18 : ((Int × Int)) => [.d ((tD (t2 iD iD)) a), .d ((t2 iD iD) s18), .un])) (z17) (im_tup (em_var 0 (tD (t2 iD iD)) a)) (.same (.same (.same .nil))) (fun x19 => (gm_name 2 (hf := by first | exact .inl rfl | exact .inr rfl))) (fun s18 x19 => (ss_cons (s1_eqv (m2 := (fun (N : (Int × Int) → Prop) (R : (Int × Int) → Prop) (E : Str → Prop) => w_sum_of_two (s18, x19) (fun r21 => N r21) E)) (st_set 1 (em_call (S := sg_sum_of_two) c_sum_of_two (ha := (am_cons (em_var 1 (t2 iD iD) s18) (am_cons (em_var 2 (t2 iD iD) x19) am_nil))) (g := fun b => (b.1, b.2.1)) (hf := fun _ => rfl))) rfl)
 (fun z20 => (ss_done (T := ((Int × Int))) (z20) (.same (.same (.drop .nil)))))))) rfl)
 (fun s18 => (ss_eqv (m2 := (fun (N : Empty → Prop) (R : (Int × Int) → Prop) (E : Str → Prop) => R s18)) (ss_one (st_ret (em_var 1 (t2 iD iD) s18))) rfl))))) rfl
/-! in_part_order -/
abbrev s_in_part_order : Stmt := topS 12
def w_in_part_order (a : (List (Int × Int))) : W (List (Int × Int)) := fun Q E =>
  (M.bd (S := (List (Int × Int))) (T := Empty) (R := (List (Int × Int))) (fun (N : (List (Int × Int)) → Prop) (R : (List (Int × Int)) → Prop) (E : Str → Prop) => N [])
 (fun z22 => (M.bd (S := ((List (Int × Int)))) (T := Empty) (R := (List (Int × Int))) (fun (N : ((List (Int × Int))) → Prop) (R : (List (Int × Int)) → Prop) (E : Str → Prop) => M.for (S := ((List (Int × Int)))) (R := (List (Int × Int))) a (z22) (fun s23 => fun x24 : (Int × Int) => (M.bd (S := Int) (T := ((List (Int × Int)))) (R := (List (Int × Int))) (fun (N : Int → Prop) (R : (List (Int × Int)) → Prop) (E : Str → Prop) => W.fm s23 (fun x26 : (Int × Int) => fun Q E => w_is_below (x24, x26) (fun r29 => W.ite (!r29) (fun Q E => Q (some x26)) (W.ret none) Q E) E) (fun r27 => N (List.length r27 : Int)) (fun _ => False))
 (fun z25 => (M.bd (S := (List (Int × Int))) (T := ((List (Int × Int)))) (R := (List (Int × Int))) (fun (N : (List (Int × Int)) → Prop) (R : (List (Int × Int)) → Prop) (E : Str → Prop) => ((0 ≤ z25 ∧ z25 < 2 ^ 63 ∧ List.length s23 < sizeLine) ∧ N (List.take (Int.toNat z25) s23 ++ [x24] ++ List.drop (Int.toNat z25) s23)))
 (fun z30 => (fun (N : ((List (Int × Int))) → Prop) (R : (List (Int × Int)) → Prop) (E : Str → Prop) => N (z30))))))) N R E)
 (fun s23 => (fun (N : Empty → Prop) (R : (List (Int × Int)) → Prop) (E : Str → Prop) => R s23))))) (fun _ => False) Q E
abbrev sg_in_part_order : Sg := Sg.mk (A := (List (Int × Int))) (R := (List (Int × Int))) (fun a => [.d ((lD (t2 iD iD)) a)]) (tD (t2 iD iD)) w_in_part_order
theorem sc_in_part_order : FnScope [Str.ofString "rows", Str.ofString "found", Str.ofString "one", Str.ofString "place", Str.ofString "other"] [Str.ofString "rows"] (defScope s_in_part_order) := C8.fnScope_by (by decide +kernel)
theorem ok_in_part_order {f : Addr} {fd : FuncData} (F : DefAt K "in_part_order" s_in_part_order [] f fd) (h_len : mg "len" = none) (h_tuple : mg "tuple" = none) (c_is_below : Cal P w K mg base ca T 1 "is_below" sg_is_below []) :
    FnOk P w K mg base (L2.CX P w) 2 f fd [Str.ofString "rows"] (Sg.sp sg_in_part_order K ca T) := by
  refine fn_mk sg_in_part_order (g := fun z : Empty => ([] : List Sl)) (mb := fun a => fun _ R' E => w_in_part_order a R' E) F sc_in_part_order (fun _ => rfl) (fun a Q E h => h) (fun cdv A outer s H E hr a => ?_)
  exact ss_eqv (ss_cons (s1_eqv (m2 := (fun (N : (List (Int × Int)) → Prop) (R : (List (Int × Int)) → Prop) (E : Str → Prop) => N [])) (st_own (f := (t2 iD iD)) (α := (Int × Int)) 1 am_nil (fun b => []) (fun b => ⟨rfl, Nat.le_of_ble_eq_true rfl⟩)) rfl)
 (fun z22 => (ss_cons (s1_eqv (m2 := (fun (N : ((List (Int × Int))) → Prop) (R : (List (Int × Int)) → Prop) (E : Str → Prop) => M.for (S := ((List (Int × Int)))) (R := (List (Int × Int))) a (z22) (fun s23 => fun x24 : (Int × Int) => (M.bd (S := Int) (T := ((List (Int × Int)))) (R := (List (Int × Int))) (fun (N : Int → Prop) (R : (List (Int × Int)) → Prop) (E : Str → Prop) => W.fm s23 (fun x26 : (Int × Int) => fun Q E => w_is_below (x24, x26) (fun r29 => W.ite (!r29) (fun Q E => Q (some x26)) (W.ret none) Q E) E) (fun r27 => N (List.length r27 : Int)) (fun _ => False))
 (fun z25 => (M.bd (S := (List (Int × Int))) (T := ((List (Int × Int)))) (R := (List (Int × Int))) (fun (N : (List (Int × Int)) → Prop) (R : (List (Int × Int)) → Prop) (E : Str → Prop) => ((0 ≤ z25 ∧ z25 < 2 ^ 63 ∧ List.length s23 < sizeLine) ∧ N (List.take (Int.toNat z25) s23 ++ [x24] ++ List.drop (Int.toNat z25) s23)))
 (fun z30 => (fun (N : ((List (Int × Int))) → Prop) (R : (List (Int × Int)) → Prop) (E : Str → Prop) => N (z30))))))) N R E)) (st_for (f := (t2 iD iD)) (S := ((List (Int × Int)))) (g := (fun s23 : ((List (Int × Int))) => [.d ((lD (t2 iD iD)) a), .ow (List.map (t2 iD iD) s23), .un, .un, .un])) (z22) (im_list (em_var 0 (lD (t2 iD iD)) a)) (.same (.same (.same (.same (.same .nil))))) (fun x24 => (gm_name 2 (hf := by first | exact .inl rfl | exact .inr rfl))) (fun s23 x24 => (ss_cons (s1_eqv (m2 := (fun (N : Int → Prop) (R : (List (Int × Int)) → Prop) (E : Str → Prop) => W.fm s23 (fun x26 : (Int × Int) => fun Q E => w_is_below (x24, x26) (fun r29 => W.ite (!r29) (fun Q E => Q (some x26)) (W.ret none) Q E) E) (fun r27 => N (List.length r27 : Int)) (fun _ => False))) (st_set 3 (em_callB call_len c_lenL (hm := h_len) (hv := bt_len) (ha := (am_cons (em_lc (fb := (t2 iD iD)) (own := [(Str.ofString "other", 4)]) (hi := (io_own (f := (t2 iD iD)) (xs := s23) 1 (h := rfl))) (ok := blkOk_by (by rfl)) (hg := fun x26 s0 Hz c cl fp => (gm_name 4 (hf := by first | exact .inl rfl | exact .inr rfl))) (hj := by decide) (hT := pt_blk) (ht := (fun x26 => tn_if (fun s0 Hz c cl fp => (tm_not (tm_val (em_call (S := sg_is_below) c_is_below (ha := (am_cons (em_var 2 (t2 iD iD) x24) (am_cons (em_var 4 (t2 iD iD) x26) am_nil))) (g := fun b => (b.1, b.2.1)) (hf := fun _ => rfl))))) (fun s0 Hz c cl fp => (em_var 4 (t2 iD iD) x26))))) am_nil)))) rfl)
 (fun z25 => (ss_cons (s1_eqv (m2 := (fun (N : (List (Int × Int)) → Prop) (R : (List (Int × Int)) → Prop) (E : Str → Prop) => ((0 ≤ z25 ∧ z25 < 2 ^ 63 ∧ List.length s23 < sizeLine) ∧ N (List.take (Int.toNat z25) s23 ++ [x24] ++ List.drop (Int.toNat z25) s23)))) (st_insert (f := (t2 iD iD)) (xs := s23) 1 (em_var 3 iD z25) (em_var 2 (t2 iD iD) x24) (h0 := rfl)) rfl)
 (fun z30 => (ss_done (T := ((List (Int × Int)))) (z30) (.same (.same (.drop (.drop (.same .nil)))))))))))) rfl)
 (fun s23 => (ss_freeze (f := (t2 iD iD)) (xs := s23) 1 (h := rfl) (ss_eqv (m2 := (fun (N : Empty → Prop) (R : (List (Int × Int)) → Prop) (E : Str → Prop) => R s23)) (ss_one (st_ret (em_callTy call_tuple_of c_tupL (hm := h_tuple) (hv := bt_tuple) (ha := (am_cons (em_var 1 (lD (t2 iD iD)) s23) am_nil))))) rfl)))))) rfl
/-! rounded_text -/
abbrev s_rounded_text : Stmt := topS 13
def w_rounded_text (a : (Int × Int) × Int) : W Str := fun Q E =>
  (M.bd (S := Unit) (T := Empty) (R := Str) (fun (N : Unit → Prop) (R : Str → Prop) (E : Str → Prop) => W.ite (decide ((0 : Int) ≤ a.2)) (fun Q E => Q (decide (a.2 ≤ (9 : Int)))) (W.ret false) (fun v32 => M.ite (!v32) (M.en (fun (N : Empty → Prop) (R : Str → Prop) (E : Str → Prop) => E (Str.ofString "NumberError"))) (fun (N : Unit → Prop) (R : Str → Prop) (E : Str → Prop) => N ()) N R E) E)
 (fun s31 => (M.bd (S := Int) (T := Empty) (R := Str) (fun (N : Int → Prop) (R : Str → Prop) (E : Str → Prop) => N (1 : Int))
 (fun z33 => (M.bd (S := (Int)) (T := Empty) (R := Str) (fun (N : (Int) → Prop) (R : Str → Prop) (E : Str → Prop) => (RgOk 0 a.2 ∧ M.for (S := (Int)) (R := Str) (rgL 0 a.2) (z33) (fun s34 => fun x35 : Int => (M.bd (S := Int) (T := (Int)) (R := Str) (fun (N : Int → Prop) (R : Str → Prop) (E : Str → Prop) => (MulOk s34 (10 : Int) ∧ N (s34 * (10 : Int))))
 (fun z36 => (fun (N : (Int) → Prop) (R : Str → Prop) (E : Str → Prop) => N (z36))))) N R E))
 (fun s34 => (M.bd (S := Int) (T := Empty) (R := Str) (fun (N : Int → Prop) (R : Str → Prop) (E : Str → Prop) => (MulOk (2 : Int) (absI a.1.1) ∧ (MulOk ((2 : Int) * (absI a.1.1)) s34 ∧ (MulOk (2 : Int) a.1.2 ∧ (DivOk ((((2 : Int) * (absI a.1.1)) * s34) + a.1.2) ((2 : Int) * a.1.2) ∧ N (Int.fdiv ((((2 : Int) * (absI a.1.1)) * s34) + a.1.2) ((2 : Int) * a.1.2)))))))
 (fun z37 => (M.bd (S := Str) (T := Empty) (R := Str) (fun (N : Str → Prop) (R : Str → Prop) (E : Str → Prop) => W.ite (decide (a.1.1 < (0 : Int))) (fun Q E => Q (decide ((0 : Int) < z37))) (W.ret false) (fun v40 => W.ite v40 (fun Q E => Q (Str.ofString "-")) (fun Q E => Q (Str.ofString "")) (fun v39 => N v39) E) E)
 (fun z38 => (M.bd (S := Unit) (T := Empty) (R := Str) (fun (N : Unit → Prop) (R : Str → Prop) (E : Str → Prop) => M.ite (decide (a.2 = (0 : Int))) (M.en (fun (N : Empty → Prop) (R : Str → Prop) (E : Str → Prop) => strW z37 (fun v43 => addSW z38 v43 (fun v42 => R v42) E) E)) (fun (N : Unit → Prop) (R : Str → Prop) (E : Str → Prop) => N ()) N R E)
 (fun s41 => (M.bd (S := Str) (T := Empty) (R := Str) (fun (N : Str → Prop) (R : Str → Prop) (E : Str → Prop) => (ModOk z37 s34 ∧ strW (Int.fmod z37 s34) (fun v45 => N v45) E))
 (fun z44 => (fun (N : Empty → Prop) (R : Str → Prop) (E : Str → Prop) => (DivOk z37 s34 ∧ strW (Int.fdiv z37 s34) (fun v50 => addSW z38 v50 (fun v49 => addSW v49 (Str.ofString ".") (fun v48 => lenSW z44 (fun v52 => repSW (Str.ofString "0") (a.2 - v52) (fun v51 => addSW v48 v51 (fun v47 => addSW v47 z44 (fun v46 => R v46) E) E) E) E) E) E) E)))))))))))))))) (fun _ => False) Q E
abbrev sg_rounded_text : Sg := Sg.mk (A := (Int × Int) × Int) (R := Str) (fun a => [.d ((t2 iD iD) a.1), .d (iD a.2)]) sD w_rounded_text
theorem sc_rounded_text : FnScope [Str.ofString "one", Str.ofString "places", Str.ofString "scale", Str.ofString "turn", Str.ofString "top", Str.ofString "sign", Str.ofString "tail"] [Str.ofString "one", Str.ofString "places"] (defScope s_rounded_text) := C8.fnScope_by (by decide +kernel)
theorem ok_rounded_text {f : Addr} {fd : FuncData} (F : DefAt K "rounded_text" s_rounded_text [] f fd) (h_abs : mg "abs" = none) (h_len : mg "len" = none) (h_range : mg "range" = none) (h_str : mg "str" = none) (e_NumberError : Rz K mg ca "NumberError") :
    FnOk P w K mg base (L2.CX P w) 1 f fd [Str.ofString "one", Str.ofString "places"] (Sg.sp sg_rounded_text K ca T) := by
  refine fn_mk sg_rounded_text (g := fun z : Empty => ([] : List Sl)) (mb := fun a => fun _ R' E => w_rounded_text a R' E) F sc_rounded_text (fun _ => rfl) (fun a Q E h => h) (fun cdv A outer s H E hr a => ?_)
  exact ss_eqv (ss_cons (s1_eqv (m2 := (fun (N : Unit → Prop) (R : Str → Prop) (E : Str → Prop) => W.ite (decide ((0 : Int) ≤ a.2)) (fun Q E => Q (decide (a.2 ≤ (9 : Int)))) (W.ret false) (fun v32 => M.ite (!v32) (M.en (fun (N : Empty → Prop) (R : Str → Prop) (E : Str → Prop) => E (Str.ofString "NumberError"))) (fun (N : Unit → Prop) (R : Str → Prop) (E : Str → Prop) => N ()) N R E) E)) (st_if (g := (fun s31 : Unit => [.d ((t2 iD iD) a.1), .d (iD a.2), .un, .un, .un, .un, .un])) (tm_not (tm_chain op_le op_le o_IB o_IB em_int (em_var 1 iD a.2) em_int)) (ss_end (ss_eqv (m2 := (fun (N : Empty → Prop) (R : Str → Prop) (E : Str → Prop) => E (Str.ofString "NumberError"))) (ss_one (st_raise' e_NumberError)) rfl)) (ss_done (T := Unit) () (.same (.same (.same (.same (.same (.same (.same .nil))))))))) rfl)
 (fun s31 => (ss_cons (s1_eqv (m2 := (fun (N : Int → Prop) (R : Str → Prop) (E : Str → Prop) => N (1 : Int))) (st_set 2 em_int) rfl)
 (fun z33 => (ss_cons (s1_eqv (m2 := (fun (N : (Int) → Prop) (R : Str → Prop) (E : Str → Prop) => (RgOk 0 a.2 ∧ M.for (S := (Int)) (R := Str) (rgL 0 a.2) (z33) (fun s34 => fun x35 : Int => (M.bd (S := Int) (T := (Int)) (R := Str) (fun (N : Int → Prop) (R : Str → Prop) (E : Str → Prop) => (MulOk s34 (10 : Int) ∧ N (s34 * (10 : Int))))
 (fun z36 => (fun (N : (Int) → Prop) (R : Str → Prop) (E : Str → Prop) => N (z36))))) N R E))) (st_for (f := iD) (S := (Int)) (g := (fun s34 : (Int) => [.d ((t2 iD iD) a.1), .d (iD a.2), .d (iD s34), .un, .un, .un, .un])) (z33) (im_range1 (hm := h_range) (h := (em_var 1 iD a.2))) (.same (.same (.same (.same (.same (.same (.same .nil))))))) (fun x35 => (gm_name 3 (hf := by first | exact .inl rfl | exact .inr rfl))) (fun s34 x35 => (ss_cons (s1_eqv (m2 := (fun (N : Int → Prop) (R : Str → Prop) (E : Str → Prop) => (MulOk s34 (10 : Int) ∧ N (s34 * (10 : Int))))) (st_aug 2 (z0 := s34) iop_mulX o_IIC (h0 := rfl) (h := em_int)) rfl)
 (fun z36 => (ss_done (T := (Int)) (z36) (.same (.same (.same (.drop (.same (.same (.same .nil)))))))))))) rfl)
 (fun s34 => (ss_cons (s1_eqv (m2 := (fun (N : Int → Prop) (R : Str → Prop) (E : Str → Prop) => (MulOk (2 : Int) (absI a.1.1) ∧ (MulOk ((2 : Int) * (absI a.1.1)) s34 ∧ (MulOk (2 : Int) a.1.2 ∧ (DivOk ((((2 : Int) * (absI a.1.1)) * s34) + a.1.2) ((2 : Int) * a.1.2) ∧ N (Int.fdiv ((((2 : Int) * (absI a.1.1)) * s34) + a.1.2) ((2 : Int) * a.1.2)))))))) (st_set 4 (em_bin op_fdivX o_IIC (em_bin op_add o_II (em_bin op_mulX o_IIC (em_bin op_mulX o_IIC em_int (em_callB call_abs c_abs (hm := h_abs) (hv := bt_abs) (ha := (am_cons (em_at ta_20 (em_var 0 (t2 iD iD) a.1)) am_nil)))) (em_var 2 iD s34)) (em_at ta_21 (em_var 0 (t2 iD iD) a.1))) (em_bin op_mulX o_IIC em_int (em_at ta_21 (em_var 0 (t2 iD iD) a.1))))) rfl)
 (fun z37 => (ss_cons (s1_eqv (m2 := (fun (N : Str → Prop) (R : Str → Prop) (E : Str → Prop) => W.ite (decide (a.1.1 < (0 : Int))) (fun Q E => Q (decide ((0 : Int) < z37))) (W.ret false) (fun v40 => W.ite v40 (fun Q E => Q (Str.ofString "-")) (fun Q E => Q (Str.ofString "")) (fun v39 => N v39) E) E)) (st_set 5 (em_if (tm_bool (xm_and (tm_cmp op_lt o_IB (em_at ta_20 (em_var 0 (t2 iD iD) a.1)) em_int) (xm_and1 (tm_cmp op_gt o_IB (em_var 4 iD z37) em_int)))) em_str em_str)) rfl)
 (fun z38 => (ss_cons (s1_eqv (m2 := (fun (N : Unit → Prop) (R : Str → Prop) (E : Str → Prop) => M.ite (decide (a.2 = (0 : Int))) (M.en (fun (N : Empty → Prop) (R : Str → Prop) (E : Str → Prop) => strW z37 (fun v43 => addSW z38 v43 (fun v42 => R v42) E) E)) (fun (N : Unit → Prop) (R : Str → Prop) (E : Str → Prop) => N ()) N R E)) (st_if (g := (fun s41 : Unit => [.d ((t2 iD iD) a.1), .d (iD a.2), .d (iD s34), .un, .d (iD z37), .d (sD z38), .un])) (tm_cmp (op_eqD (hu_ct _)) (o_eq eqf_int) (em_var 1 iD a.2) em_int) (ss_end (ss_eqv (m2 := (fun (N : Empty → Prop) (R : Str → Prop) (E : Str → Prop) => strW z37 (fun v43 => addSW z38 v43 (fun v42 => R v42) E) E)) (ss_one (st_ret (em_bin op_add_str o_addS (em_var 5 sD z38) (em_callTy call_str_int c_str (hm := h_str) (hv := bt_str) (ha := (am_cons (em_var 4 iD z37) am_nil)))))) rfl)) (ss_done (T := Unit) () (.same (.same (.same (.same (.same (.same (.same .nil))))))))) rfl)
 (fun s41 => (ss_cons (s1_eqv (m2 := (fun (N : Str → Prop) (R : Str → Prop) (E : Str → Prop) => (ModOk z37 s34 ∧ strW (Int.fmod z37 s34) (fun v45 => N v45) E))) (st_set 6 (em_callTy call_str_int c_str (hm := h_str) (hv := bt_str) (ha := (am_cons (em_bin op_modX o_IIC (em_var 4 iD z37) (em_var 2 iD s34)) am_nil)))) rfl)
 (fun z44 => (ss_eqv (m2 := (fun (N : Empty → Prop) (R : Str → Prop) (E : Str → Prop) => (DivOk z37 s34 ∧ strW (Int.fdiv z37 s34) (fun v50 => addSW z38 v50 (fun v49 => addSW v49 (Str.ofString ".") (fun v48 => lenSW z44 (fun v52 => repSW (Str.ofString "0") (a.2 - v52) (fun v51 => addSW v48 v51 (fun v47 => addSW v47 z44 (fun v46 => R v46) E) E) E) E) E) E) E))) (ss_one (st_ret (em_bin op_add_str o_addS (em_bin op_add_str o_addS (em_bin op_add_str o_addS (em_bin op_add_str o_addS (em_var 5 sD z38) (em_callTy call_str_int c_str (hm := h_str) (hv := bt_str) (ha := (am_cons (em_bin op_fdivX o_IIC (em_var 4 iD z37) (em_var 2 iD s34)) am_nil)))) em_str) (em_bin op_mulS o_mulS em_str (em_bin op_sub o_II (em_var 1 iD a.2) (em_callB call_len c_lenS (hm := h_len) (hv := bt_len) (ha := (am_cons (em_var 6 sD z44) am_nil)))))) (em_var 6 sD z44)))) rfl))))))))))))))) rfl
/-! square_root -/
abbrev s_square_root : Stmt := topS 14
def w_square_root (a : Int) : W Int := fun Q E =>
  (M.bd (S := Unit) (T := Empty) (R := Int) (fun (N : Unit → Prop) (R : Int → Prop) (E : Str → Prop) => M.ite (decide (a < (0 : Int))) (M.en (fun (N : Empty → Prop) (R : Int → Prop) (E : Str → Prop) => E (Str.ofString "NumberError"))) (fun (N : Unit → Prop) (R : Int → Prop) (E : Str → Prop) => N ()) N R E)
 (fun s53 => (M.bd (S := (Int × Int)) (T := Empty) (R := Int) (fun (N : (Int × Int) → Prop) (R : Int → Prop) (E : Str → Prop) => N ((0 : Int), (a + (1 : Int))))
 (fun z54 => (M.bd (S := (Int × Int)) (T := Empty) (R := Int) (fun (N : (Int × Int) → Prop) (R : Int → Prop) (E : Str → Prop) => M.whl (S := (Int × Int)) (R := Int) (fun s55 => fun Q E => Q (decide ((1 : Int) < (s55.2 - s55.1)))) (fun s55 => (M.bd (S := Int) (T := (Int × Int)) (R := Int) (fun (N : Int → Prop) (R : Int → Prop) (E : Str → Prop) => (DivOk (s55.1 + s55.2) (2 : Int) ∧ N (Int.fdiv (s55.1 + s55.2) (2 : Int))))
 (fun z56 => (M.bd (S := (Int × Int)) (T := (Int × Int)) (R := Int) (fun (N : (Int × Int) → Prop) (R : Int → Prop) (E : Str → Prop) => (MulOk z56 z56 ∧ M.ite (decide ((z56 * z56) ≤ a)) (M.bd (S := Int) (T := (Int × Int)) (R := Int) (fun (N : Int → Prop) (R : Int → Prop) (E : Str → Prop) => N z56)
 (fun z60 => (fun (N : (Int × Int) → Prop) (R : Int → Prop) (E : Str → Prop) => N (z60, s55.2)))) (M.bd (S := Int) (T := (Int × Int)) (R := Int) (fun (N : Int → Prop) (R : Int → Prop) (E : Str → Prop) => N z56)
 (fun z61 => (fun (N : (Int × Int) → Prop) (R : Int → Prop) (E : Str → Prop) => N (s55.1, z61)))) N R E))
 (fun s59 => (fun (N : (Int × Int) → Prop) (R : Int → Prop) (E : Str → Prop) => N (s59.1, s59.2))))))) (z54.1, z54.2) N R E)
 (fun s55 => (fun (N : Empty → Prop) (R : Int → Prop) (E : Str → Prop) => R s55.1))))))) (fun _ => False) Q E
abbrev sg_square_root : Sg := Sg.mk (A := Int) (R := Int) (fun a => [.d (iD a)]) iD w_square_root
theorem sc_square_root : FnScope [Str.ofString "number", Str.ofString "low", Str.ofString "high", Str.ofString "middle"] [Str.ofString "number"] (defScope s_square_root) := C8.fnScope_by (by decide +kernel)
theorem ok_square_root {f : Addr} {fd : FuncData} (F : DefAt K "square_root" s_square_root [] f fd) (e_NumberError : Rz K mg ca "NumberError") :
    FnOk P w K mg base (L2.CX P w) 1 f fd [Str.ofString "number"] (Sg.sp sg_square_root K ca T) := by
  refine fn_mk sg_square_root (g := fun z : Empty => ([] : List Sl)) (mb := fun a => fun _ R' E => w_square_root a R' E) F sc_square_root (fun _ => rfl) (fun a Q E h => h) (fun cdv A outer s H E hr a => ?_)
  exact ss_eqv (ss_cons (s1_eqv (m2 := (fun (N : Unit → Prop) (R : Int → Prop) (E : Str → Prop) => M.ite (decide (a < (0 : Int))) (M.en (fun (N : Empty → Prop) (R : Int → Prop) (E : Str → Prop) => E (Str.ofString "NumberError"))) (fun (N : Unit → Prop) (R : Int → Prop) (E : Str → Prop) => N ()) N R E)) (st_if (g := (fun s53 : Unit => [.d (iD a), .un, .un, .un])) (tm_cmp op_lt o_IB (em_var 0 iD a) em_int) (ss_end (ss_eqv (m2 := (fun (N : Empty → Prop) (R : Int → Prop) (E : Str → Prop) => E (Str.ofString "NumberError"))) (ss_one (st_raise' e_NumberError)) rfl)) (ss_done (T := Unit) () (.same (.same (.same (.same .nil)))))) rfl)
 (fun s53 => (ss_cons (s1_eqv (m2 := (fun (N : (Int × Int) → Prop) (R : Int → Prop) (E : Str → Prop) => N ((0 : Int), (a + (1 : Int))))) (st_par 1 2 em_int (em_bin op_add o_II (em_var 0 iD a) em_int) (hij := by decide) (hx := rfl) (hy := rfl) (hw := rfl)) rfl)
 (fun z54 => (ss_cons (s1_eqv (m2 := (fun (N : (Int × Int) → Prop) (R : Int → Prop) (E : Str → Prop) => M.whl (S := (Int × Int)) (R := Int) (fun s55 => fun Q E => Q (decide ((1 : Int) < (s55.2 - s55.1)))) (fun s55 => (M.bd (S := Int) (T := (Int × Int)) (R := Int) (fun (N : Int → Prop) (R : Int → Prop) (E : Str → Prop) => (DivOk (s55.1 + s55.2) (2 : Int) ∧ N (Int.fdiv (s55.1 + s55.2) (2 : Int))))
 (fun z56 => (M.bd (S := (Int × Int)) (T := (Int × Int)) (R := Int) (fun (N : (Int × Int) → Prop) (R : Int → Prop) (E : Str → Prop) => (MulOk z56 z56 ∧ M.ite (decide ((z56 * z56) ≤ a)) (M.bd (S := Int) (T := (Int × Int)) (R := Int) (fun (N : Int → Prop) (R : Int → Prop) (E : Str → Prop) => N z56)
 (fun z60 => (fun (N : (Int × Int) → Prop) (R : Int → Prop) (E : Str → Prop) => N (z60, s55.2)))) (M.bd (S := Int) (T := (Int × Int)) (R := Int) (fun (N : Int → Prop) (R : Int → Prop) (E : Str → Prop) => N z56)
 (fun z61 => (fun (N : (Int × Int) → Prop) (R : Int → Prop) (E : Str → Prop) => N (s55.1, z61)))) N R E))
 (fun s59 => (fun (N : (Int × Int) → Prop) (R : Int → Prop) (E : Str → Prop) => N (s59.1, s59.2))))))) (z54.1, z54.2) N R E)) (st_whl (S := (Int × Int)) (g := (fun s55 : (Int × Int) => [.d (iD a), .d (iD s55.1), .d (iD s55.2), .un])) (z54.1, z54.2) (.same (.same (.same (.same .nil)))) (mc := fun s55 => fun Q E => Q (decide ((1 : Int) < (s55.2 - s55.1)))) (fun s55 => em_eqvT (tm_cmp op_gt o_IB (em_bin op_sub o_II (em_var 2 iD s55.2) (em_var 1 iD s55.1)) em_int) rfl) (fun s55 => (ss_cons (s1_eqv (m2 := (fun (N : Int → Prop) (R : Int → Prop) (E : Str → Prop) => (DivOk (s55.1 + s55.2) (2 : Int) ∧ N (Int.fdiv (s55.1 + s55.2) (2 : Int))))) (st_set 3 (em_bin op_fdivX o_IIC (em_bin op_add o_II (em_var 1 iD s55.1) (em_var 2 iD s55.2)) em_int)) rfl)
 (fun z56 => (ss_cons (s1_eqv (m2 := (fun (N : (Int × Int) → Prop) (R : Int → Prop) (E : Str → Prop) => (MulOk z56 z56 ∧ M.ite (decide ((z56 * z56) ≤ a)) (M.bd (S := Int) (T := (Int × Int)) (R := Int) (fun (N : Int → Prop) (R : Int → Prop) (E : Str → Prop) => N z56)
 (fun z60 => (fun (N : (Int × Int) → Prop) (R : Int → Prop) (E : Str → Prop) => N (z60, s55.2)))) (M.bd (S := Int) (T := (Int × Int)) (R := Int) (fun (N : Int → Prop) (R : Int → Prop) (E : Str → Prop) => N z56)
 (fun z61 => (fun (N : (Int × Int) → Prop) (R : Int → Prop) (E : Str → Prop) => N (s55.1, z61)))) N R E))) (st_if (g := (fun s59 : (Int × Int) => [.d (iD a), .d (iD s59.1), .d (iD s59.2), .d (iD z56)])) (tm_cmp op_le o_IB (em_bin op_mulX o_IIC (em_var 3 iD z56) (em_var 3 iD z56)) (em_var 0 iD a)) (ss_cons (s1_eqv (m2 := (fun (N : Int → Prop) (R : Int → Prop) (E : Str → Prop) => N z56)) (st_set 1 (em_var 3 iD z56)) rfl)
 (fun z60 => (ss_done (T := (Int × Int)) (z60, s55.2) (.same (.same (.same (.same .nil))))))) (ss_cons (s1_eqv (m2 := (fun (N : Int → Prop) (R : Int → Prop) (E : Str → Prop) => N z56)) (st_set 2 (em_var 3 iD z56)) rfl)
 (fun z61 => (ss_done (T := (Int × Int)) (s55.1, z61) (.same (.same (.same (.same .nil)))))))) rfl)
 (fun s59 => (ss_done (T := (Int × Int)) (s59.1, s59.2) (.same (.same (.same (.drop .nil))))))))))) rfl)
 (fun s55 => (ss_eqv (m2 := (fun (N : Empty → Prop) (R : Int → Prop) (E : Str → Prop) => R s55.1)) (ss_one (st_ret (em_var 1 iD s55.1))) rfl))))))) rfl
/-! root_text -/
abbrev s_root_text : Stmt := topS 15
def w_root_text (a : (Int × Int) × Int) : W Str := fun Q E =>
  (M.bd (S := Unit) (T := Empty) (R := Str) (fun (N : Unit → Prop) (R : Str → Prop) (E : Str → Prop) => W.ite (decide (a.1.1 < (0 : Int))) (W.ret true) (fun Q E => W.ite (decide ((0 : Int) ≤ a.2)) (fun Q E => Q (decide (a.2 ≤ (6 : Int)))) (W.ret false) (fun v64 => Q (!v64)) E) (fun v63 => M.ite v63 (M.en (fun (N : Empty → Prop) (R : Str → Prop) (E : Str → Prop) => E (Str.ofString "NumberError"))) (fun (N : Unit → Prop) (R : Str → Prop) (E : Str → Prop) => N ()) N R E) E)
 (fun s62 => (M.bd (S := Int) (T := Empty) (R := Str) (fun (N : Int → Prop) (R : Str → Prop) (E : Str → Prop) => N (1 : Int))
 (fun z65 => (M.bd (S := (Int)) (T := Empty) (R := Str) (fun (N : (Int) → Prop) (R : Str → Prop) (E : Str → Prop) => (RgOk 0 a.2 ∧ M.for (S := (Int)) (R := Str) (rgL 0 a.2) (z65) (fun s66 => fun x67 : Int => (M.bd (S := Int) (T := (Int)) (R := Str) (fun (N : Int → Prop) (R : Str → Prop) (E : Str → Prop) => (MulOk s66 (10 : Int) ∧ N (s66 * (10 : Int))))
 (fun z68 => (fun (N : (Int) → Prop) (R : Str → Prop) (E : Str → Prop) => N (z68))))) N R E))
 (fun s66 => (M.bd (S := Int) (T := Empty) (R := Str) (fun (N : Int → Prop) (R : Str → Prop) (E : Str → Prop) => (MulOk a.1.1 s66 ∧ (MulOk (a.1.1 * s66) s66 ∧ (DivOk ((a.1.1 * s66) * s66) a.1.2 ∧ w_square_root ((Int.fdiv ((a.1.1 * s66) * s66) a.1.2)) (fun r70 => N r70) E))))
 (fun z69 => (M.bd (S := Unit) (T := Empty) (R := Str) (fun (N : Unit → Prop) (R : Str → Prop) (E : Str → Prop) => M.ite (decide (a.2 = (0 : Int))) (M.en (fun (N : Empty → Prop) (R : Str → Prop) (E : Str → Prop) => strW z69 (fun v72 => R v72) E)) (fun (N : Unit → Prop) (R : Str → Prop) (E : Str → Prop) => N ()) N R E)
 (fun s71 => (M.bd (S := Str) (T := Empty) (R := Str) (fun (N : Str → Prop) (R : Str → Prop) (E : Str → Prop) => (ModOk z69 s66 ∧ strW (Int.fmod z69 s66) (fun v74 => N v74) E))
 (fun z73 => (fun (N : Empty → Prop) (R : Str → Prop) (E : Str → Prop) => (DivOk z69 s66 ∧ strW (Int.fdiv z69 s66) (fun v78 => addSW v78 (Str.ofString ".") (fun v77 => lenSW z73 (fun v80 => repSW (Str.ofString "0") (a.2 - v80) (fun v79 => addSW v77 v79 (fun v76 => addSW v76 z73 (fun v75 => R v75) E) E) E) E) E) E)))))))))))))) (fun _ => False) Q E
abbrev sg_root_text : Sg := Sg.mk (A := (Int × Int) × Int) (R := Str) (fun a => [.d ((t2 iD iD) a.1), .d (iD a.2)]) sD w_root_text
theorem sc_root_text : FnScope [Str.ofString "one", Str.ofString "places", Str.ofString "scale", Str.ofString "turn", Str.ofString "root", Str.ofString "tail"] [Str.ofString "one", Str.ofString "places"] (defScope s_root_text) := C8.fnScope_by (by decide +kernel)
theorem ok_root_text {f : Addr} {fd : FuncData} (F : DefAt K "root_text" s_root_text [] f fd) (h_len : mg "len" = none) (h_range : mg "range" = none) (h_str : mg "str" = none) (c_square_root : Cal P w K mg base ca T 1 "square_root" sg_square_root []) (e_NumberError : Rz K mg ca "NumberError") :
    FnOk P w K mg base (L2.CX P w) 2 f fd [Str.ofString "one", Str.ofString "places"] (Sg.sp sg_root_text K ca T) := by
  refine fn_mk sg_root_text (g := fun z : Empty => ([] : List Sl)) (mb := fun a => fun _ R' E => w_root_text a R' E) F sc_root_text (fun _ => rfl) (fun a Q E h => h) (fun cdv A outer s H E hr a => ?_)
  exact ss_eqv (ss_cons (s1_eqv (m2 := (fun (N : Unit → Prop) (R : Str → Prop) (E : Str → Prop) => W.ite (decide (a.1.1 < (0 : Int))) (W.ret true) (fun Q E => W.ite (decide ((0 : Int) ≤ a.2)) (fun Q E => Q (decide (a.2 ≤ (6 : Int)))) (W.ret false) (fun v64 => Q (!v64)) E) (fun v63 => M.ite v63 (M.en (fun (N : Empty → Prop) (R : Str → Prop) (E : Str → Prop) => E (Str.ofString "NumberError"))) (fun (N : Unit → Prop) (R : Str → Prop) (E : Str → Prop) => N ()) N R E) E)) (st_if (g := (fun s62 : Unit => [.d ((t2 iD iD) a.1), .d (iD a.2), .un, .un, .un, .un])) (tm_bool (xm_or (tm_cmp op_lt o_IB (em_at ta_20 (em_var 0 (t2 iD iD) a.1)) em_int) (xm_or1 (tm_not (tm_chain op_le op_le o_IB o_IB em_int (em_var 1 iD a.2) em_int))))) (ss_end (ss_eqv (m2 := (fun (N : Empty → Prop) (R : Str → Prop) (E : Str → Prop) => E (Str.ofString "NumberError"))) (ss_one (st_raise' e_NumberError)) rfl)) (ss_done (T := Unit) () (.same (.same (.same (.same (.same (.same .nil)))))))) rfl)
 (fun s62 => (ss_cons (s1_eqv (m2 := (fun (N : Int → Prop) (R : Str → Prop) (E : Str → Prop) => N (1 : Int))) (st_set 2 em_int) rfl)
 (fun z65 => (ss_cons (s1_eqv (m2 := (fun (N : (Int) → Prop) (R : Str → Prop) (E : Str → Prop) => (RgOk 0 a.2 ∧ M.for (S := (Int)) (R := Str) (rgL 0 a.2) (z65) (fun s66 => fun x67 : Int => (M.bd (S := Int) (T := (Int)) (R := Str) (fun (N : Int → Prop) (R : Str → Prop) (E : Str → Prop) => (MulOk s66 (10 : Int) ∧ N (s66 * (10 : Int))))
 (fun z68 => (fun (N : (Int) → Prop) (R : Str → Prop) (E : Str → Prop) => N (z68))))) N R E))) (st_for (f := iD) (S := (Int)) (g := (fun s66 : (Int) => [.d ((t2 iD iD) a.1), .d (iD a.2), .d (iD s66), .un, .un, .un])) (z65) (im_range1 (hm := h_range) (h := (em_var 1 iD a.2))) (.same (.same (.same (.same (.same (.same .nil)))))) (fun x67 => (gm_name 3 (hf := by first | exact .inl rfl | exact .inr rfl))) (fun s66 x67 => (ss_cons (s1_eqv (m2 := (fun (N : Int → Prop) (R : Str → Prop) (E : Str → Prop) => (MulOk s66 (10 : Int) ∧ N (s66 * (10 : Int))))) (st_aug 2 (z0 := s66) iop_mulX o_IIC (h0 := rfl) (h := em_int)) rfl)
 (fun z68 => (ss_done (T := (Int)) (z68) (.same (.same (.same (.drop (.same (.same .nil))))))))))) rfl)
 (fun s66 => (ss_cons (s1_eqv (m2 := (fun (N : Int → Prop) (R : Str → Prop) (E : Str → Prop) => (MulOk a.1.1 s66 ∧ (MulOk (a.1.1 * s66) s66 ∧ (DivOk ((a.1.1 * s66) * s66) a.1.2 ∧ w_square_root ((Int.fdiv ((a.1.1 * s66) * s66) a.1.2)) (fun r70 => N r70) E))))) (st_set 4 (em_call (S := sg_square_root) c_square_root (ha := (am_cons (em_bin op_fdivX o_IIC (em_bin op_mulX o_IIC (em_bin op_mulX o_IIC (em_at ta_20 (em_var 0 (t2 iD iD) a.1)) (em_var 2 iD s66)) (em_var 2 iD s66)) (em_at ta_21 (em_var 0 (t2 iD iD) a.1))) am_nil)) (g := fun b => (b.1)) (hf := fun _ => rfl))) rfl)
 (fun z69 => (ss_cons (s1_eqv (m2 := (fun (N : Unit → Prop) (R : Str → Prop) (E : Str → Prop) => M.ite (decide (a.2 = (0 : Int))) (M.en (fun (N : Empty → Prop) (R : Str → Prop) (E : Str → Prop) => strW z69 (fun v72 => R v72) E)) (fun (N : Unit → Prop) (R : Str → Prop) (E : Str → Prop) => N ()) N R E)) (st_if (g := (fun s71 : Unit => [.d ((t2 iD iD) a.1), .d (iD a.2), .d (iD s66), .un, .d (iD z69), .un])) (tm_cmp (op_eqD (hu_ct _)) (o_eq eqf_int) (em_var 1 iD a.2) em_int) (ss_end (ss_eqv (m2 := (fun (N : Empty → Prop) (R : Str → Prop) (E : Str → Prop) => strW z69 (fun v72 => R v72) E)) (ss_one (st_ret (em_callTy call_str_int c_str (hm := h_str) (hv := bt_str) (ha := (am_cons (em_var 4 iD z69) am_nil))))) rfl)) (ss_done (T := Unit) () (.same (.same (.same (.same (.same (.same .nil)))))))) rfl)
 (fun s71 => (ss_cons (s1_eqv (m2 := (fun (N : Str → Prop) (R : Str → Prop) (E : Str → Prop) => (ModOk z69 s66 ∧ strW (Int.fmod z69 s66) (fun v74 => N v74) E))) (st_set 5 (em_callTy call_str_int c_str (hm := h_str) (hv := bt_str) (ha := (am_cons (em_bin op_modX o_IIC (em_var 4 iD z69) (em_var 2 iD s66)) am_nil)))) rfl)
 (fun z73 => (ss_eqv (m2 := (fun (N : Empty → Prop) (R : Str → Prop) (E : Str → Prop) => (DivOk z69 s66 ∧ strW (Int.fdiv z69 s66) (fun v78 => addSW v78 (Str.ofString ".") (fun v77 => lenSW z73 (fun v80 => repSW (Str.ofString "0") (a.2 - v80) (fun v79 => addSW v77 v79 (fun v76 => addSW v76 z73 (fun v75 => R v75) E) E) E) E) E) E))) (ss_one (st_ret (em_bin op_add_str o_addS (em_bin op_add_str o_addS (em_bin op_add_str o_addS (em_callTy call_str_int c_str (hm := h_str) (hv := bt_str) (ha := (am_cons (em_bin op_fdivX o_IIC (em_var 4 iD z69) (em_var 2 iD s66)) am_nil))) em_str) (em_bin op_mulS o_mulS em_str (em_bin op_sub o_II (em_var 1 iD a.2) (em_callB call_len c_lenS (hm := h_len) (hv := bt_len) (ha := (am_cons (em_var 5 sD z73) am_nil)))))) (em_var 5 sD z73)))) rfl))))))))))))) rfl
/-! is_count -/
abbrev s_is_count : Stmt := topS 17
def w_is_count (a : Str) : W Bool := fun Q E =>
  (fun (N : Empty → Prop) (R : Bool → Prop) (E : Str → Prop) => lenSW a (fun v83 => W.ite (decide ((1 : Int) ≤ v83)) (fun Q E => Q (decide (v83 ≤ (9 : Int)))) (W.ret false) (fun v82 => W.ite v82 (fun Q E => Q (List.all (Array.toList (Str.cps a)) (fun c => decide (c ∈ Array.toList (Str.cps (Str.ofString "0123456789")))))) (W.ret false) (fun v81 => R v81) E) E) E) (fun _ => False) Q E
abbrev sg_is_count : Sg := Sg.mk (A := Str) (R := Bool) (fun a => [.d (sD a)]) bD w_is_count
theorem sc_is_count : FnScope [Str.ofString "word"] [Str.ofString "word"] (defScope s_is_count) := C8.fnScope_by (by decide +kernel)
theorem ok_is_count {p : Str × Option Str} {Pt : Addr} {fd : FuncData} (F : DefAt K "is_count" s_is_count [] (He.fAd K p) fd) (h_all : mg "all" = none) (h_len : mg "len" = none) (TB : LamX.TabB base mg (He.codeOf K p) Pt) (hT : (Pt, FO.tabg) ∈ T) :
    FnOk P w K mg base (L2.CX P w) 1 (He.fAd K p) fd [Str.ofString "word"] (Sg.sp sg_is_count K ca T) := by
  refine fn_mkC sg_is_count (g := fun z : Empty => ([] : List Sl)) (mb := fun a => fun _ R' E => w_is_count a R' E) F sc_is_count (fun _ => rfl) (fun a Q E h => h) (fun A outer s H E hr a => ?_)
  exact ss_eqv (ss_eqv (m2 := (fun (N : Empty → Prop) (R : Bool → Prop) (E : Str → Prop) => lenSW a (fun v83 => W.ite (decide ((1 : Int) ≤ v83)) (fun Q E => Q (decide (v83 ≤ (9 : Int)))) (W.ret false) (fun v82 => W.ite v82 (fun Q E => Q (List.all (Array.toList (Str.cps a)) (fun c => decide (c ∈ Array.toList (Str.cps (Str.ofString "0123456789")))))) (W.ret false) (fun v81 => R v81) E) E) E)) (ss_one (st_ret (em_and (em_chain op_le op_le o_IB o_IB em_int (em_callB call_len c_lenS (hm := h_len) (hv := bt_len) (ha := (am_cons (em_var 0 sD a) am_nil))) em_int) (em_one (em_allS (hg := rfl) (hm := h_all) (hb := bt_all) (hT := hT) (TB := TB) (hcode := rfl) (S := genS_by (by decide +kernel)) (hi := (em_var 0 sD a)) (hel := elt_in rfl rfl) (hs := fun _ => rfl)))))) rfl) rfl
/-! read_part -/
abbrev s_read_part : Stmt := topS 16
def w_read_part (a : Str) : W (Int × Int) := fun Q E =>
  (M.bd (S := Str) (T := Empty) (R := (Int × Int)) (fun (N : Str → Prop) (R : (Int × Int) → Prop) (E : Str → Prop) => startsW a (Str.ofString "-") (fun v87 => W.ite v87 (fun Q E => cutSW a (some (1 : Int)) none (fun v86 => Q v86) E) (fun Q E => Q a) (fun v85 => N v85) E) E)
 (fun z84 => (M.bd (S := Int) (T := Empty) (R := (Int × Int)) (fun (N : Int → Prop) (R : (Int × Int) → Prop) (E : Str → Prop) => startsW a (Str.ofString "-") (fun v90 => W.ite v90 (fun Q E => Q ((0 : Int) - (1 : Int))) (fun Q E => Q (1 : Int)) (fun v89 => N v89) E) E)
 (fun z88 => (M.bd (S := Unit) (T := Empty) (R := (Int × Int)) (fun (N : Unit → Prop) (R : (Int × Int) → Prop) (E : Str → Prop) => M.for (S := Unit) (R := (Int × Int)) ([(Str.ofString "."), (Str.ofString "/")] : (List Str)) () (fun s91 => fun x92 : Str => (M.bd (S := (Str × Str × Str)) (T := Unit) (R := (Int × Int)) (fun (N : (Str × Str × Str) → Prop) (R : (Int × Int) → Prop) (E : Str → Prop) => partW z84 x92 (fun v94 => N v94) E)
 (fun z93 => (M.bd (S := Unit) (T := Unit) (R := (Int × Int)) (fun (N : Unit → Prop) (R : (Int × Int) → Prop) (E : Str → Prop) => M.ite (!decide (z93.2.1 = (Str.ofString ""))) (M.en (M.bd (S := Unit) (T := Empty) (R := (Int × Int)) (fun (N : Unit → Prop) (R : (Int × Int) → Prop) (E : Str → Prop) => w_is_count (z93.1) (fun r99 => W.ite (!r99) (W.ret true) (fun Q E => w_is_count (z93.2.2) (fun r98 => Q (!r98)) E) (fun v97 => M.ite v97 (M.en (fun (N : Empty → Prop) (R : (Int × Int) → Prop) (E : Str → Prop) => E (Str.ofString "NumberError"))) (fun (N : Unit → Prop) (R : (Int × Int) → Prop) (E : Str → Prop) => N ()) N R E) E) E)
 (fun s96 => (M.bd (S := Int) (T := Empty) (R := (Int × Int)) (fun (N : Int → Prop) (R : (Int × Int) → Prop) (E : Str → Prop) => W.ite (decide (x92 = (Str.ofString "."))) (fun Q E => lenSW z93.2.2 (fun v104 => repSW (Str.ofString "0") v104 (fun v103 => addSW (Str.ofString "1") v103 (fun v102 => intSW v102 (fun v105 => Q v105) E) E) E) E) (fun Q E => intSW z93.2.2 (fun v106 => Q v106) E) (fun v101 => N v101) E)
 (fun z100 => (M.bd (S := Int) (T := Empty) (R := (Int × Int)) (fun (N : Int → Prop) (R : (Int × Int) → Prop) (E : Str → Prop) => W.ite (decide (x92 = (Str.ofString "."))) (fun Q E => intSW z93.1 (fun v109 => (MulOk v109 z100 ∧ intSW z93.2.2 (fun v110 => Q ((v109 * z100) + v110)) E)) E) (fun Q E => intSW z93.1 (fun v111 => Q v111) E) (fun v108 => N v108) E)
 (fun z107 => (fun (N : Empty → Prop) (R : (Int × Int) → Prop) (E : Str → Prop) => (MulOk z88 z107 ∧ w_part_of ((z88 * z107), z100) (fun r112 => R r112) E))))))))) (fun (N : Unit → Prop) (R : (Int × Int) → Prop) (E : Str → Prop) => N ()) N R E)
 (fun s95 => (fun (N : Unit → Prop) (R : (Int × Int) → Prop) (E : Str → Prop) => N ())))))) N R E)
 (fun s91 => (M.bd (S := Unit) (T := Empty) (R := (Int × Int)) (fun (N : Unit → Prop) (R : (Int × Int) → Prop) (E : Str → Prop) => w_is_count (z84) (fun r114 => M.ite (!r114) (M.en (fun (N : Empty → Prop) (R : (Int × Int) → Prop) (E : Str → Prop) => E (Str.ofString "NumberError"))) (fun (N : Unit → Prop) (R : (Int × Int) → Prop) (E : Str → Prop) => N ()) N R E) E)
 (fun s113 => (fun (N : Empty → Prop) (R : (Int × Int) → Prop) (E : Str → Prop) => intSW z84 (fun v115 => (MulOk z88 v115 ∧ R ((z88 * v115), (1 : Int)))) E))))))))) (fun _ => False) Q E
abbrev sg_read_part : Sg := Sg.mk (A := Str) (R := (Int × Int)) (fun a => [.d (sD a)]) (t2 iD iD) w_read_part
theorem sc_read_part : FnScope [Str.ofString "text", Str.ofString "body", Str.ofString "sign", Str.ofString "mark", Str.ofString "head", Str.ofString "found", Str.ofString "tail", Str.ofString "scale", Str.ofString "whole"] [Str.ofString "text"] (defScope s_read_part) := C8.fnScope_by (by decide +kernel)
theorem ok_read_part {f : Addr} {fd : FuncData} (F : DefAt K "read_part" s_read_part [] f fd) (h_int : mg "int" = none) (h_len : mg "len" = none) (c_is_count : Cal P w K mg base ca T 1 "is_count" sg_is_count []) (c_part_of : Cal P w K mg base ca T 2 "part_of" sg_part_of []) (e_NumberError : Rz K mg ca "NumberError") :
    FnOk P w K mg base (L2.CX P w) 3 f fd [Str.ofString "text"] (Sg.sp sg_read_part K ca T) := by
  refine fn_mk sg_read_part (g := fun z : Empty => ([] : List Sl)) (mb := fun a => fun _ R' E => w_read_part a R' E) F sc_read_part (fun _ => rfl) (fun a Q E h => h) (fun cdv A outer s H E hr a => ?_)
  exact ss_eqv (ss_cons (s1_eqv (m2 := (fun (N : Str → Prop) (R : (Int × Int) → Prop) (E : Str → Prop) => startsW a (Str.ofString "-") (fun v87 => W.ite v87 (fun Q E => cutSW a (some (1 : Int)) none (fun v86 => Q v86) E) (fun Q E => Q a) (fun v85 => N v85) E) E)) (st_set 1 (em_if (tm_val (em_starts (em_var 0 sD a) em_str)) (em_sliceS (em_var 0 sD a) (om_some em_int) om_none) (em_var 0 sD a))) rfl)
 (fun z84 => (ss_cons (s1_eqv (m2 := (fun (N : Int → Prop) (R : (Int × Int) → Prop) (E : Str → Prop) => startsW a (Str.ofString "-") (fun v90 => W.ite v90 (fun Q E => Q ((0 : Int) - (1 : Int))) (fun Q E => Q (1 : Int)) (fun v89 => N v89) E) E)) (st_set 2 (em_if (tm_val (em_starts (em_var 0 sD a) em_str)) (em_bin op_sub o_II em_int em_int) em_int)) rfl)
 (fun z88 => (ss_cons (s1_eqv (m2 := (fun (N : Unit → Prop) (R : (Int × Int) → Prop) (E : Str → Prop) => M.for (S := Unit) (R := (Int × Int)) ([(Str.ofString "."), (Str.ofString "/")] : (List Str)) () (fun s91 => fun x92 : Str => (M.bd (S := (Str × Str × Str)) (T := Unit) (R := (Int × Int)) (fun (N : (Str × Str × Str) → Prop) (R : (Int × Int) → Prop) (E : Str → Prop) => partW z84 x92 (fun v94 => N v94) E)
 (fun z93 => (M.bd (S := Unit) (T := Unit) (R := (Int × Int)) (fun (N : Unit → Prop) (R : (Int × Int) → Prop) (E : Str → Prop) => M.ite (!decide (z93.2.1 = (Str.ofString ""))) (M.en (M.bd (S := Unit) (T := Empty) (R := (Int × Int)) (fun (N : Unit → Prop) (R : (Int × Int) → Prop) (E : Str → Prop) => w_is_count (z93.1) (fun r99 => W.ite (!r99) (W.ret true) (fun Q E => w_is_count (z93.2.2) (fun r98 => Q (!r98)) E) (fun v97 => M.ite v97 (M.en (fun (N : Empty → Prop) (R : (Int × Int) → Prop) (E : Str → Prop) => E (Str.ofString "NumberError"))) (fun (N : Unit → Prop) (R : (Int × Int) → Prop) (E : Str → Prop) => N ()) N R E) E) E)
 (fun s96 => (M.bd (S := Int) (T := Empty) (R := (Int × Int)) (fun (N : Int → Prop) (R : (Int × Int) → Prop) (E : Str → Prop) => W.ite (decide (x92 = (Str.ofString "."))) (fun Q E => lenSW z93.2.2 (fun v104 => repSW (Str.ofString "0") v104 (fun v103 => addSW (Str.ofString "1") v103 (fun v102 => intSW v102 (fun v105 => Q v105) E) E) E) E) (fun Q E => intSW z93.2.2 (fun v106 => Q v106) E) (fun v101 => N v101) E)
 (fun z100 => (M.bd (S := Int) (T := Empty) (R := (Int × Int)) (fun (N : Int → Prop) (R : (Int × Int) → Prop) (E : Str → Prop) => W.ite (decide (x92 = (Str.ofString "."))) (fun Q E => intSW z93.1 (fun v109 => (MulOk v109 z100 ∧ intSW z93.2.2 (fun v110 => Q ((v109 * z100) + v110)) E)) E) (fun Q E => intSW z93.1 (fun v111 => Q v111) E) (fun v108 => N v108) E)
 (fun z107 => (fun (N : Empty → Prop) (R : (Int × Int) → Prop) (E : Str → Prop) => (MulOk z88 z107 ∧ w_part_of ((z88 * z107), z100) (fun r112 => R r112) E))))))))) (fun (N : Unit → Prop) (R : (Int × Int) → Prop) (E : Str → Prop) => N ()) N R E)
 (fun s95 => (fun (N : Unit → Prop) (R : (Int × Int) → Prop) (E : Str → Prop) => N ())))))) N R E)) (st_for (f := sD) (S := Unit) (g := (fun s91 : Unit => [.d (sD a), .d (sD z84), .d (iD z88), .un, .un, .un, .un, .un, .un])) () (im_tup (em_tup (fc := (tD sD)) (γ := (List Str)) (am_cons em_str (am_cons em_str am_nil)) (fun b => [b.1, b.2.1]) (fun b => ⟨[sD b.1, sD b.2.1], rfl, rfl, Nat.le_of_ble_eq_true rfl⟩))) (.same (.same (.same (.same (.same (.same (.same (.same (.same .nil))))))))) (fun x92 => (gm_name 3 (hf := by first | exact .inl rfl | exact .inr rfl))) (fun s91 x92 => (ss_cons (s1_eqv (m2 := (fun (N : (Str × Str × Str) → Prop) (R : (Int × Int) → Prop) (E : Str → Prop) => partW z84 x92 (fun v94 => N v94) E)) (st_tgt (em_part (em_var 1 sD z84) (em_var 3 sD x92)) (fun z93 => (gm_tup (gms_cons (gm_name 4 (hf := by first | exact .inl rfl | exact .inr rfl)) (gms_cons (gm_name 5 (hf := by first | exact .inl rfl | exact .inr rfl)) (gms_cons (gm_name 6 (hf := by first | exact .inl rfl | exact .inr rfl)) gms_nil)))))) rfl)
 (fun z93 => (ss_cons (s1_eqv (m2 := (fun (N : Unit → Prop) (R : (Int × Int) → Prop) (E : Str → Prop) => M.ite (!decide (z93.2.1 = (Str.ofString ""))) (M.en (M.bd (S := Unit) (T := Empty) (R := (Int × Int)) (fun (N : Unit → Prop) (R : (Int × Int) → Prop) (E : Str → Prop) => w_is_count (z93.1) (fun r99 => W.ite (!r99) (W.ret true) (fun Q E => w_is_count (z93.2.2) (fun r98 => Q (!r98)) E) (fun v97 => M.ite v97 (M.en (fun (N : Empty → Prop) (R : (Int × Int) → Prop) (E : Str → Prop) => E (Str.ofString "NumberError"))) (fun (N : Unit → Prop) (R : (Int × Int) → Prop) (E : Str → Prop) => N ()) N R E) E) E)
 (fun s96 => (M.bd (S := Int) (T := Empty) (R := (Int × Int)) (fun (N : Int → Prop) (R : (Int × Int) → Prop) (E : Str → Prop) => W.ite (decide (x92 = (Str.ofString "."))) (fun Q E => lenSW z93.2.2 (fun v104 => repSW (Str.ofString "0") v104 (fun v103 => addSW (Str.ofString "1") v103 (fun v102 => intSW v102 (fun v105 => Q v105) E) E) E) E) (fun Q E => intSW z93.2.2 (fun v106 => Q v106) E) (fun v101 => N v101) E)
 (fun z100 => (M.bd (S := Int) (T := Empty) (R := (Int × Int)) (fun (N : Int → Prop) (R : (Int × Int) → Prop) (E : Str → Prop) => W.ite (decide (x92 = (Str.ofString "."))) (fun Q E => intSW z93.1 (fun v109 => (MulOk v109 z100 ∧ intSW z93.2.2 (fun v110 => Q ((v109 * z100) + v110)) E)) E) (fun Q E => intSW z93.1 (fun v111 => Q v111) E) (fun v108 => N v108) E)
 (fun z107 => (fun (N : Empty → Prop) (R : (Int × Int) → Prop) (E : Str → Prop) => (MulOk z88 z107 ∧ w_part_of ((z88 * z107), z100) (fun r112 => R r112) E))))))))) (fun (N : Unit → Prop) (R : (Int × Int) → Prop) (E : Str → Prop) => N ()) N R E)) (st_if (g := (fun s95 : Unit => [.d (sD a), .d (sD z84), .d (iD z88), .d (sD x92), .d (sD z93.1), .d (sD z93.2.1), .d (sD z93.2.2), .un, .un])) (tm_cmp op_ne o_neS (em_var 5 sD z93.2.1) em_str) (ss_end (ss_cons (s1_eqv (m2 := (fun (N : Unit → Prop) (R : (Int × Int) → Prop) (E : Str → Prop) => w_is_count (z93.1) (fun r99 => W.ite (!r99) (W.ret true) (fun Q E => w_is_count (z93.2.2) (fun r98 => Q (!r98)) E) (fun v97 => M.ite v97 (M.en (fun (N : Empty → Prop) (R : (Int × Int) → Prop) (E : Str → Prop) => E (Str.ofString "NumberError"))) (fun (N : Unit → Prop) (R : (Int × Int) → Prop) (E : Str → Prop) => N ()) N R E) E) E)) (st_if (g := (fun s96 : Unit => [.d (sD a), .d (sD z84), .d (iD z88), .d (sD x92), .d (sD z93.1), .d (sD z93.2.1), .d (sD z93.2.2), .un, .un])) (tm_bool (xm_or (tm_not (tm_val (em_call (S := sg_is_count) c_is_count (ha := (am_cons (em_var 4 sD z93.1) am_nil)) (g := fun b => (b.1)) (hf := fun _ => rfl)))) (xm_or1 (tm_not (tm_val (em_call (S := sg_is_count) c_is_count (ha := (am_cons (em_var 6 sD z93.2.2) am_nil)) (g := fun b => (b.1)) (hf := fun _ => rfl))))))) (ss_end (ss_eqv (m2 := (fun (N : Empty → Prop) (R : (Int × Int) → Prop) (E : Str → Prop) => E (Str.ofString "NumberError"))) (ss_one (st_raise' e_NumberError)) rfl)) (ss_done (T := Unit) () (.same (.same (.same (.same (.same (.same (.same (.same (.same .nil))))))))))) rfl)
 (fun s96 => (ss_cons (s1_eqv (m2 := (fun (N : Int → Prop) (R : (Int × Int) → Prop) (E : Str → Prop) => W.ite (decide (x92 = (Str.ofString "."))) (fun Q E => lenSW z93.2.2 (fun v104 => repSW (Str.ofString "0") v104 (fun v103 => addSW (Str.ofString "1") v103 (fun v102 => intSW v102 (fun v105 => Q v105) E) E) E) E) (fun Q E => intSW z93.2.2 (fun v106 => Q v106) E) (fun v101 => N v101) E)) (st_set 7 (em_if (tm_cmp op_eq o_eqS (em_var 3 sD x92) em_str) (em_callTy call_int_str c_intS (hm := h_int) (hv := bt_int) (ha := (am_cons (em_bin op_add_str o_addS em_str (em_bin op_mulS o_mulS em_str (em_callB call_len c_lenS (hm := h_len) (hv := bt_len) (ha := (am_cons (em_var 6 sD z93.2.2) am_nil))))) am_nil))) (em_callTy call_int_str c_intS (hm := h_int) (hv := bt_int) (ha := (am_cons (em_var 6 sD z93.2.2) am_nil))))) rfl)
 (fun z100 => (ss_cons (s1_eqv (m2 := (fun (N : Int → Prop) (R : (Int × Int) → Prop) (E : Str → Prop) => W.ite (decide (x92 = (Str.ofString "."))) (fun Q E => intSW z93.1 (fun v109 => (MulOk v109 z100 ∧ intSW z93.2.2 (fun v110 => Q ((v109 * z100) + v110)) E)) E) (fun Q E => intSW z93.1 (fun v111 => Q v111) E) (fun v108 => N v108) E)) (st_set 8 (em_if (tm_cmp op_eq o_eqS (em_var 3 sD x92) em_str) (em_bin op_add o_II (em_bin op_mulX o_IIC (em_callTy call_int_str c_intS (hm := h_int) (hv := bt_int) (ha := (am_cons (em_var 4 sD z93.1) am_nil))) (em_var 7 iD z100)) (em_callTy call_int_str c_intS (hm := h_int) (hv := bt_int) (ha := (am_cons (em_var 6 sD z93.2.2) am_nil)))) (em_callTy call_int_str c_intS (hm := h_int) (hv := bt_int) (ha := (am_cons (em_var 4 sD z93.1) am_nil))))) rfl)
 (fun z107 => (ss_eqv (m2 := (fun (N : Empty → Prop) (R : (Int × Int) → Prop) (E : Str → Prop) => (MulOk z88 z107 ∧ w_part_of ((z88 * z107), z100) (fun r112 => R r112) E))) (ss_one (st_ret (em_call (S := sg_part_of) c_part_of (ha := (am_cons (em_bin op_mulX o_IIC (em_var 2 iD z88) (em_var 8 iD z107)) (am_cons (em_var 7 iD z100) am_nil))) (g := fun b => (b.1, b.2.1)) (hf := fun _ => rfl)))) rfl)))))))) (ss_done (T := Unit) () (.same (.same (.same (.same (.same (.same (.same (.same (.same .nil))))))))))) rfl)
 (fun s95 => (ss_done (T := Unit) () (.same (.same (.same (.drop (.drop (.drop (.drop (.same (.same .nil)))))))))))))))) rfl)
 (fun s91 => (ss_cons (s1_eqv (m2 := (fun (N : Unit → Prop) (R : (Int × Int) → Prop) (E : Str → Prop) => w_is_count (z84) (fun r114 => M.ite (!r114) (M.en (fun (N : Empty → Prop) (R : (Int × Int) → Prop) (E : Str → Prop) => E (Str.ofString "NumberError"))) (fun (N : Unit → Prop) (R : (Int × Int) → Prop) (E : Str → Prop) => N ()) N R E) E)) (st_if (g := (fun s113 : Unit => [.d (sD a), .d (sD z84), .d (iD z88), .un, .un, .un, .un, .un, .un])) (tm_not (tm_val (em_call (S := sg_is_count) c_is_count (ha := (am_cons (em_var 1 sD z84) am_nil)) (g := fun b => (b.1)) (hf := fun _ => rfl)))) (ss_end (ss_eqv (m2 := (fun (N : Empty → Prop) (R : (Int × Int) → Prop) (E : Str → Prop) => E (Str.ofString "NumberError"))) (ss_one (st_raise' e_NumberError)) rfl)) (ss_done (T := Unit) () (.same (.same (.same (.same (.same (.same (.same (.same (.same .nil))))))))))) rfl)
 (fun s113 => (ss_eqv (m2 := (fun (N : Empty → Prop) (R : (Int × Int) → Prop) (E : Str → Prop) => intSW z84 (fun v115 => (MulOk z88 v115 ∧ R ((z88 * v115), (1 : Int)))) E)) (ss_one (st_ret (em_tup (fc := (t2 iD iD)) (am_cons (em_bin op_mulX o_IIC (em_var 2 iD z88) (em_callTy call_int_str c_intS (hm := h_int) (hv := bt_int) (ha := (am_cons (em_var 1 sD z84) am_nil)))) (am_cons em_int am_nil)) (fun b => (b.1, b.2.1)) (fun b => ⟨[iD b.1, iD b.2.1], rfl, rfl, Nat.le_of_ble_eq_true rfl⟩)))) rfl))))))))) rfl
/-! _law_roll -/
abbrev s_law_roll : Stmt := topS 20
def w_law_roll_body (a : Int) : W Int := fun Q E =>
  (M.bd (S := Unit) (T := Empty) (R := Int) (fun (N : Unit → Prop) (R : Int → Prop) (E : Str → Prop) => (∀ v125 : Int, W.ite (decide (v125 = (2 : Int))) (W.ret true) (fun Q E => (∀ v124 : Int, W.ite (decide (v124 = (1 : Int))) (fun Q E => (∀ v123 : Int, Q (decide ((0 : Int) < v123)))) (W.ret false) (fun v122 => Q v122) E)) (fun v121 => M.ite v121 (M.en (M.bd (S := Int) (T := Empty) (R := Int) (fun (N : Int → Prop) (R : Int → Prop) (E : Str → Prop) => (∀ v118 : Int, (ModOk v118 a ∧ N (Int.fmod v118 a))))
 (fun z117 => (M.bd (S := Unit) (T := Empty) (R := Int) (fun (N : Unit → Prop) (R : Int → Prop) (E : Str → Prop) => (∀ v120 : Int, (DivOk v120 a ∧ N ())))
 (fun _ => (fun (N : Empty → Prop) (R : Int → Prop) (E : Str → Prop) => R z117)))))) (fun (N : Unit → Prop) (R : Int → Prop) (E : Str → Prop) => N ()) N R E) E))
 (fun s116 => (M.bd (S := Unit) (T := Empty) (R := Int) (fun (N : Unit → Prop) (R : Int → Prop) (E : Str → Prop) => N ())
 (fun _ => (M.bd (S := Unit) (T := Empty) (R := Int) (fun (N : Unit → Prop) (R : Int → Prop) (E : Str → Prop) => M.ite (decide ((100000000 : Int) < a)) (fun (N : Unit → Prop) (R : Int → Prop) (E : Str → Prop) => False) (fun (N : Unit → Prop) (R : Int → Prop) (E : Str → Prop) => N ()) N R E)
 (fun _ => (M.bd (S := Unit) (T := Empty) (R := Int) (fun (N : Unit → Prop) (R : Int → Prop) (E : Str → Prop) => (∀ v128 : Int, (MulOk v128 (48271 : Int) ∧ (∀ v129 : Int, (MulOk v129 (69621 : Int) ∧ (ModOk (((v128 * (48271 : Int)) + (v129 * (69621 : Int))) + (11 : Int)) (2147483647 : Int) ∧ N ()))))))
 (fun _ => (M.bd (S := Unit) (T := Empty) (R := Int) (fun (N : Unit → Prop) (R : Int → Prop) (E : Str → Prop) => (∀ v131 : Int, N ()))
 (fun _ => (fun (N : Empty → Prop) (R : Int → Prop) (E : Str → Prop) => (∀ v132 : Int, (DivOk v132 (7 : Int) ∧ (ModOk (Int.fdiv v132 (7 : Int)) a ∧ R (Int.fmod (Int.fdiv v132 (7 : Int)) a))))))))))))))) (fun _ => False) Q E
theorem run_law_roll (a : Int) (Q : Int → Prop) (E : Str → Prop) (h : w_law_roll a Q E) : w_law_roll_body a Q E := by
  obtain ⟨h1, h2, h3⟩ := h
  have hf : ∀ z : Int, Q (Int.fmod z a) := fun z => h3 _ (fmod_nn h1) (fmod_lt h1)
  have hm : ∀ z, ModOk z a := fun z => by show a ≠ 0; omega
  have hd : ∀ z, DivOk z a := fun z => divOk_small (by omega) (small_pow h1 h2)
  have hd7 : ∀ z, DivOk z 7 := fun z => ⟨by decide, by decide⟩
  have hm2 : ∀ z, ModOk z 2147483647 := fun z => by show (2147483647 : Int) ≠ 0; decide
  have hx1 : ∀ z, Wl.MulOk z 48271 := fun z => mulOk_r (by decide) (by decide)
  have hx2 : ∀ z, Wl.MulOk z 69621 := fun z => mulOk_r (by decide) (by decide)
  have hna : ¬ (100000000 < a) := by omega
  intro v1
  simp [W.ite, W.ret, W.let, M.bd, M.en, M.ite, hm, hd, hd7, hm2, hx1, hx2, hna, hf]
theorem sc_law_roll : FnScope [Str.ofString "dice", Str.ofString "many", Str.ofString "found"] [Str.ofString "dice", Str.ofString "many"] (defScope s_law_roll) := C8.fnScope_by (by decide +kernel)
theorem ok_law_roll {f : Addr} {fd : FuncData} (F : DefAt K "_law_roll" s_law_roll [] f fd) (h_int : mg "int" = none) :
    FnOk P w K mg base (L2.CX P w) 1 f fd [Str.ofString "dice", Str.ofString "many"] (Sg.sp sg_law_roll K ca T) := by
  refine fn_mk sg_law_roll (g := fun z : Empty => ([] : List Sl)) (mb := fun a => fun _ R' E => w_law_roll_body a R' E) F sc_law_roll (fun _ => rfl) (fun a Q E h => run_law_roll a Q E h) (fun cdv A outer s H E hr a => ?_)
  exact ss_eqv (ss_cons (s1_eqv (m2 := (fun (N : Unit → Prop) (R : Int → Prop) (E : Str → Prop) => (∀ v125 : Int, W.ite (decide (v125 = (2 : Int))) (W.ret true) (fun Q E => (∀ v124 : Int, W.ite (decide (v124 = (1 : Int))) (fun Q E => (∀ v123 : Int, Q (decide ((0 : Int) < v123)))) (W.ret false) (fun v122 => Q v122) E)) (fun v121 => M.ite v121 (M.en (M.bd (S := Int) (T := Empty) (R := Int) (fun (N : Int → Prop) (R : Int → Prop) (E : Str → Prop) => (∀ v118 : Int, (ModOk v118 a ∧ N (Int.fmod v118 a))))
 (fun z117 => (M.bd (S := Unit) (T := Empty) (R := Int) (fun (N : Unit → Prop) (R : Int → Prop) (E : Str → Prop) => (∀ v120 : Int, (DivOk v120 a ∧ N ())))
 (fun _ => (fun (N : Empty → Prop) (R : Int → Prop) (E : Str → Prop) => R z117)))))) (fun (N : Unit → Prop) (R : Int → Prop) (E : Str → Prop) => N ()) N R E) E))) (st_if (g := (fun s116 : Unit => [.dice, .d (iD a), .un])) (tm_bool (xm_or (tm_cmp (op_eqD (hu_ct _)) (o_eq eqf_int) (em_ixD 0 (h0 := rfl)) em_int) (xm_or1 (tm_bool (xm_and (tm_cmp (op_eqD (hu_ct _)) (o_eq eqf_int) (em_ixD 0 (h0 := rfl)) em_int) (xm_and1 (tm_cmp op_gt o_IB (em_ixD 0 (h0 := rfl)) em_int))))))) (ss_end (ss_cons (s1_eqv (m2 := (fun (N : Int → Prop) (R : Int → Prop) (E : Str → Prop) => (∀ v118 : Int, (ModOk v118 a ∧ N (Int.fmod v118 a))))) (st_set 2 (em_bin op_modX o_IIC (em_callTy call_int1 c_intI (hm := h_int) (hv := bt_int) (ha := (am_cons (em_ixD 0 (h0 := rfl)) am_nil))) (em_var 1 iD a))) rfl)
 (fun z117 => (ss_cons (s1_eqv (m2 := (fun (N : Unit → Prop) (R : Int → Prop) (E : Str → Prop) => (∀ v120 : Int, (DivOk v120 a ∧ N ())))) (st_setD 0 (em_bin op_fdivX o_IIC (em_ixD 0 (h0 := rfl)) (em_var 1 iD a)) (h0 := rfl)) rfl)
 (fun _ => (ss_eqv (m2 := (fun (N : Empty → Prop) (R : Int → Prop) (E : Str → Prop) => R z117)) (ss_one (st_ret (em_var 2 iD z117))) rfl)))))) (ss_done (T := Unit) () (.same (.same (.same .nil))))) rfl)
 (fun s116 => (ss_cons (s1_eqv (m2 := (fun (N : Unit → Prop) (R : Int → Prop) (E : Str → Prop) => N ())) (st_setD 0 em_int (h0 := rfl)) rfl)
 (fun _ => (ss_cons (s1_eqv (m2 := (fun (N : Unit → Prop) (R : Int → Prop) (E : Str → Prop) => M.ite (decide ((100000000 : Int) < a)) (fun (N : Unit → Prop) (R : Int → Prop) (E : Str → Prop) => False) (fun (N : Unit → Prop) (R : Int → Prop) (E : Str → Prop) => N ()) N R E)) (st_if (g := (fun _ : Unit => [.dice, .d (iD a), .un])) (tm_cmp op_gt o_IB (em_var 1 iD a) em_int) ss_none (ss_done (T := Unit) () (.same (.same (.same .nil))))) rfl)
 (fun _ => (ss_cons (s1_eqv (m2 := (fun (N : Unit → Prop) (R : Int → Prop) (E : Str → Prop) => (∀ v128 : Int, (MulOk v128 (48271 : Int) ∧ (∀ v129 : Int, (MulOk v129 (69621 : Int) ∧ (ModOk (((v128 * (48271 : Int)) + (v129 * (69621 : Int))) + (11 : Int)) (2147483647 : Int) ∧ N ()))))))) (st_setD 0 (em_bin op_modX o_IIC (em_callTy call_int1 c_intI (hm := h_int) (hv := bt_int) (ha := (am_cons (em_bin op_add o_II (em_bin op_add o_II (em_bin op_mulX o_IIC (em_ixD 0 (h0 := rfl)) em_int) (em_bin op_mulX o_IIC (em_ixD 0 (h0 := rfl)) em_int)) em_int) am_nil))) em_int) (h0 := rfl)) rfl)
 (fun _ => (ss_cons (s1_eqv (m2 := (fun (N : Unit → Prop) (R : Int → Prop) (E : Str → Prop) => (∀ v131 : Int, N ()))) (st_setD 0 (em_bin op_add o_II (em_ixD 0 (h0 := rfl)) em_int) (h0 := rfl)) rfl)
 (fun _ => (ss_eqv (m2 := (fun (N : Empty → Prop) (R : Int → Prop) (E : Str → Prop) => (∀ v132 : Int, (DivOk v132 (7 : Int) ∧ (ModOk (Int.fdiv v132 (7 : Int)) a ∧ R (Int.fmod (Int.fdiv v132 (7 : Int)) a)))))) (ss_one (st_ret (em_bin op_modX o_IIC (em_callTy call_int1 c_intI (hm := h_int) (hv := bt_int) (ha := (am_cons (em_bin op_fdivX o_IIC (em_ixD 0 (h0 := rfl)) em_int) am_nil))) (em_var 1 iD a)))) rfl))))))))))) rfl
/-! _law_low -/
abbrev s_law_low : Stmt := topS 23
def w_law_low (a : Int × Int) : W (Int × Int) := fun Q E =>
  (M.bd (S := (Int × Int)) (T := Empty) (R := (Int × Int)) (fun (N : (Int × Int) → Prop) (R : (Int × Int) → Prop) (E : Str → Prop) => W.ite (decide (a.2 < (0 : Int))) (fun Q E => Q ((-a.1), (-a.2))) (fun Q E => Q (a.1, a.2)) (fun v134 => N v134) E)
 (fun z133 => (M.bd (S := (Int × Int)) (T := Empty) (R := (Int × Int)) (fun (N : (Int × Int) → Prop) (R : (Int × Int) → Prop) (E : Str → Prop) => N ((maxI z133.1 (-z133.1)), z133.2))
 (fun z135 => (M.bd (S := (Int × Int)) (T := Empty) (R := (Int × Int)) (fun (N : (Int × Int) → Prop) (R : (Int × Int) → Prop) (E : Str → Prop) => M.whl (S := (Int × Int)) (R := (Int × Int)) (fun s136 => fun Q E => Q (!decide (s136.2 = (0 : Int)))) (fun s136 => (M.bd (S := (Int × Int)) (T := (Int × Int)) (R := (Int × Int)) (fun (N : (Int × Int) → Prop) (R : (Int × Int) → Prop) (E : Str → Prop) => (ModOk s136.1 s136.2 ∧ N (s136.2, (Int.fmod s136.1 s136.2))))
 (fun z137 => (fun (N : (Int × Int) → Prop) (R : (Int × Int) → Prop) (E : Str → Prop) => N (z137.1, z137.2))))) (z135.1, z135.2) N R E)
 (fun s136 => (fun (N : Empty → Prop) (R : (Int × Int) → Prop) (E : Str → Prop) => (DivOk z133.1 s136.1 ∧ (DivOk z133.2 s136.1 ∧ R ((Int.fdiv z133.1 s136.1), (Int.fdiv z133.2 s136.1))))))))))) (fun _ => False) Q E
abbrev sg_law_low : Sg := Sg.mk (A := Int × Int) (R := (Int × Int)) (fun a => [.d (iD a.1), .d (iD a.2)]) (t2 iD iD) w_law_low
theorem sc_law_low : FnScope [Str.ofString "top", Str.ofString "bottom", Str.ofString "a", Str.ofString "b"] [Str.ofString "top", Str.ofString "bottom"] (defScope s_law_low) := C8.fnScope_by (by decide +kernel)
theorem ok_law_low {f : Addr} {fd : FuncData} (F : DefAt K "_law_low" s_law_low [] f fd) (h_max : mg "max" = none) :
    FnOk P w K mg base (L2.CX P w) 1 f fd [Str.ofString "top", Str.ofString "bottom"] (Sg.sp sg_law_low K ca T) := by
  refine fn_mk sg_law_low (g := fun z : Empty => ([] : List Sl)) (mb := fun a => fun _ R' E => w_law_low a R' E) F sc_law_low (fun _ => rfl) (fun a Q E h => h) (fun cdv A outer s H E hr a => ?_)
  exact ss_eqv (ss_cons (s1_eqv (m2 := (fun (N : (Int × Int) → Prop) (R : (Int × Int) → Prop) (E : Str → Prop) => W.ite (decide (a.2 < (0 : Int))) (fun Q E => Q ((-a.1), (-a.2))) (fun Q E => Q (a.1, a.2)) (fun v134 => N v134) E)) (st_tgt (em_if (tm_cmp op_lt o_IB (em_var 1 iD a.2) em_int) (em_tup (fc := (t2 iD iD)) (am_cons (em_neg (em_var 0 iD a.1)) (am_cons (em_neg (em_var 1 iD a.2)) am_nil)) (fun b => (b.1, b.2.1)) (fun b => ⟨[iD b.1, iD b.2.1], rfl, rfl, Nat.le_of_ble_eq_true rfl⟩)) (em_tup (fc := (t2 iD iD)) (am_cons (em_var 0 iD a.1) (am_cons (em_var 1 iD a.2) am_nil)) (fun b => (b.1, b.2.1)) (fun b => ⟨[iD b.1, iD b.2.1], rfl, rfl, Nat.le_of_ble_eq_true rfl⟩))) (fun z133 => (gm_tup (gms_cons (gm_name 0 (hf := by first | exact .inl rfl | exact .inr rfl)) (gms_cons (gm_name 1 (hf := by first | exact .inl rfl | exact .inr rfl)) gms_nil))))) rfl)
 (fun z133 => (ss_cons (s1_eqv (m2 := (fun (N : (Int × Int) → Prop) (R : (Int × Int) → Prop) (E : Str → Prop) => N ((maxI z133.1 (-z133.1)), z133.2))) (st_par 2 3 (em_callB (call_max2 (Ct.calm _)) c_max2 (hm := h_max) (hv := bt_max) (ha := (am_cons (em_var 0 iD z133.1) (am_cons (em_neg (em_var 0 iD z133.1)) am_nil)))) (em_var 1 iD z133.2) (hij := by decide) (hx := rfl) (hy := rfl) (hw := rfl)) rfl)
 (fun z135 => (ss_cons (s1_eqv (m2 := (fun (N : (Int × Int) → Prop) (R : (Int × Int) → Prop) (E : Str → Prop) => M.whl (S := (Int × Int)) (R := (Int × Int)) (fun s136 => fun Q E => Q (!decide (s136.2 = (0 : Int)))) (fun s136 => (M.bd (S := (Int × Int)) (T := (Int × Int)) (R := (Int × Int)) (fun (N : (Int × Int) → Prop) (R : (Int × Int) → Prop) (E : Str → Prop) => (ModOk s136.1 s136.2 ∧ N (s136.2, (Int.fmod s136.1 s136.2))))
 (fun z137 => (fun (N : (Int × Int) → Prop) (R : (Int × Int) → Prop) (E : Str → Prop) => N (z137.1, z137.2))))) (z135.1, z135.2) N R E)) (st_whl (S := (Int × Int)) (g := (fun s136 : (Int × Int) => [.d (iD z133.1), .d (iD z133.2), .d (iD s136.1), .d (iD s136.2)])) (z135.1, z135.2) (.same (.same (.same (.same .nil)))) (mc := fun s136 => fun Q E => Q (!decide (s136.2 = (0 : Int)))) (fun s136 => em_eqvT (tm_cmp (op_neD (hu_ct _)) (o_ne eqf_int) (em_var 3 iD s136.2) em_int) rfl) (fun s136 => (ss_cons (s1_eqv (m2 := (fun (N : (Int × Int) → Prop) (R : (Int × Int) → Prop) (E : Str → Prop) => (ModOk s136.1 s136.2 ∧ N (s136.2, (Int.fmod s136.1 s136.2))))) (st_par 2 3 (em_var 3 iD s136.2) (em_bin op_modX o_IIC (em_var 2 iD s136.1) (em_var 3 iD s136.2)) (hij := by decide) (hx := rfl) (hy := rfl) (hw := rfl)) rfl)
 (fun z137 => (ss_done (T := (Int × Int)) (z137.1, z137.2) (.same (.same (.same (.same .nil))))))))) rfl)
 (fun s136 => (ss_eqv (m2 := (fun (N : Empty → Prop) (R : (Int × Int) → Prop) (E : Str → Prop) => (DivOk z133.1 s136.1 ∧ (DivOk z133.2 s136.1 ∧ R ((Int.fdiv z133.1 s136.1), (Int.fdiv z133.2 s136.1)))))) (ss_one (st_ret (em_tup (fc := (t2 iD iD)) (am_cons (em_bin op_fdivX o_IIC (em_var 0 iD z133.1) (em_var 2 iD s136.1)) (am_cons (em_bin op_fdivX o_IIC (em_var 1 iD z133.2) (em_var 2 iD s136.1)) am_nil)) (fun b => (b.1, b.2.1)) (fun b => ⟨[iD b.1, iD b.2.1], rfl, rfl, Nat.le_of_ble_eq_true rfl⟩)))) rfl))))))) rfl
/-! _law_drawn -/
abbrev s_law_drawn : Stmt := topS 24
def w_law_drawn (a : Unit) : W (Int × Int) := fun Q E =>
  (fun (N : Empty → Prop) (R : (Int × Int) → Prop) (E : Str → Prop) => w_law_roll ((201 : Int)) (fun r138 => w_law_roll ((24 : Int)) (fun r139 => w_law_low ((r138 - (100 : Int)), ((1 : Int) + r139)) (fun r140 => R r140) E) E) E) (fun _ => False) Q E
abbrev sg_law_drawn : Sg := Sg.mk (A := Unit) (R := (Int × Int)) (fun a => [.dice]) (t2 iD iD) w_law_drawn
theorem sc_law_drawn : FnScope [Str.ofString "dice"] [Str.ofString "dice"] (defScope s_law_drawn) := C8.fnScope_by (by decide +kernel)
theorem ok_law_drawn {f : Addr} {fd : FuncData} (F : DefAt K "_law_drawn" s_law_drawn [] f fd) (c_law_low : Cal P w K mg base ca T 1 "_law_low" sg_law_low []) (c_law_roll : Cal P w K mg base ca T 1 "_law_roll" sg_law_roll []) :
    FnOk P w K mg base (L2.CX P w) 2 f fd [Str.ofString "dice"] (Sg.sp sg_law_drawn K ca T) := by
  refine fn_mk sg_law_drawn (g := fun z : Empty => ([] : List Sl)) (mb := fun a => fun _ R' E => w_law_drawn a R' E) F sc_law_drawn (fun _ => rfl) (fun a Q E h => h) (fun cdv A outer s H E hr a => ?_)
  exact ss_eqv (ss_eqv (m2 := (fun (N : Empty → Prop) (R : (Int × Int) → Prop) (E : Str → Prop) => w_law_roll ((201 : Int)) (fun r138 => w_law_roll ((24 : Int)) (fun r139 => w_law_low ((r138 - (100 : Int)), ((1 : Int) + r139)) (fun r140 => R r140) E) E) E)) (ss_one (st_ret (em_call (S := sg_law_low) c_law_low (ha := (am_cons (em_bin op_sub o_II (em_call (S := sg_law_roll) c_law_roll (ha := (am_dice 0 (h := rfl) (hr := (am_cons em_int am_nil)))) (g := fun b => (b.1)) (hf := fun _ => rfl)) em_int) (am_cons (em_bin op_add o_II em_int (em_call (S := sg_law_roll) c_law_roll (ha := (am_dice 0 (h := rfl) (hr := (am_cons em_int am_nil)))) (g := fun b => (b.1)) (hf := fun _ => rfl))) am_nil))) (g := fun b => (b.1, b.2.1)) (hf := fun _ => rfl)))) rfl) rfl
/-! _law_figures -/
abbrev s_law_figures : Stmt := topS 25
def w_law_figures (a : Int × Int) : W Str := fun Q E =>
  (M.bd (S := Str) (T := Empty) (R := Str) (fun (N : Str → Prop) (R : Str → Prop) (E : Str → Prop) => strW (maxI a.1 (-a.1)) (fun v142 => N v142) E)
 (fun z141 => (M.bd (S := Str) (T := Empty) (R := Str) (fun (N : Str → Prop) (R : Str → Prop) (E : Str → Prop) => lenSW z141 (fun v146 => repSW (Str.ofString "0") ((a.2 + (1 : Int)) - v146) (fun v145 => addSW v145 z141 (fun v144 => N v144) E) E) E)
 (fun z143 => (fun (N : Empty → Prop) (R : Str → Prop) (E : Str → Prop) => W.ite (decide (a.1 < (0 : Int))) (fun Q E => Q (Str.ofString "-")) (fun Q E => Q (Str.ofString "")) (fun v148 => W.ite (decide (a.2 = (0 : Int))) (fun Q E => Q z143) (fun Q E => lenSW z143 (fun v153 => cutSW z143 none (some (v153 - a.2)) (fun v152 => addSW v152 (Str.ofString ".") (fun v151 => lenSW z143 (fun v155 => cutSW z143 (some (v155 - a.2)) none (fun v154 => addSW v151 v154 (fun v150 => Q v150) E) E) E) E) E) E) (fun v149 => addSW v148 v149 (fun v147 => R v147) E) E) E))))) (fun _ => False) Q E
abbrev sg_law_figures : Sg := Sg.mk (A := Int × Int) (R := Str) (fun a => [.d (iD a.1), .d (iD a.2)]) sD w_law_figures
theorem sc_law_figures : FnScope [Str.ofString "whole", Str.ofString "places", Str.ofString "text"] [Str.ofString "whole", Str.ofString "places"] (defScope s_law_figures) := C8.fnScope_by (by decide +kernel)
theorem ok_law_figures {f : Addr} {fd : FuncData} (F : DefAt K "_law_figures" s_law_figures [] f fd) (h_len : mg "len" = none) (h_max : mg "max" = none) (h_str : mg "str" = none) :
    FnOk P w K mg base (L2.CX P w) 1 f fd [Str.ofString "whole", Str.ofString "places"] (Sg.sp sg_law_figures K ca T) := by
  refine fn_mk sg_law_figures (g := fun z : Empty => ([] : List Sl)) (mb := fun a => fun _ R' E => w_law_figures a R' E) F sc_law_figures (fun _ => rfl) (fun a Q E h => h) (fun cdv A outer s H E hr a => ?_)
  exact ss_eqv (ss_cons (s1_eqv (m2 := (fun (N : Str → Prop) (R : Str → Prop) (E : Str → Prop) => strW (maxI a.1 (-a.1)) (fun v142 => N v142) E)) (st_set 2 (em_callTy call_str_int c_str (hm := h_str) (hv := bt_str) (ha := (am_cons (em_callB (call_max2 (Ct.calm _)) c_max2 (hm := h_max) (hv := bt_max) (ha := (am_cons (em_var 0 iD a.1) (am_cons (em_neg (em_var 0 iD a.1)) am_nil)))) am_nil)))) rfl)
 (fun z141 => (ss_cons (s1_eqv (m2 := (fun (N : Str → Prop) (R : Str → Prop) (E : Str → Prop) => lenSW z141 (fun v146 => repSW (Str.ofString "0") ((a.2 + (1 : Int)) - v146) (fun v145 => addSW v145 z141 (fun v144 => N v144) E) E) E)) (st_set 2 (em_bin op_add_str o_addS (em_bin op_mulS o_mulS em_str (em_bin op_sub o_II (em_bin op_add o_II (em_var 1 iD a.2) em_int) (em_callB call_len c_lenS (hm := h_len) (hv := bt_len) (ha := (am_cons (em_var 2 sD z141) am_nil))))) (em_var 2 sD z141))) rfl)
 (fun z143 => (ss_eqv (m2 := (fun (N : Empty → Prop) (R : Str → Prop) (E : Str → Prop) => W.ite (decide (a.1 < (0 : Int))) (fun Q E => Q (Str.ofString "-")) (fun Q E => Q (Str.ofString "")) (fun v148 => W.ite (decide (a.2 = (0 : Int))) (fun Q E => Q z143) (fun Q E => lenSW z143 (fun v153 => cutSW z143 none (some (v153 - a.2)) (fun v152 => addSW v152 (Str.ofString ".") (fun v151 => lenSW z143 (fun v155 => cutSW z143 (some (v155 - a.2)) none (fun v154 => addSW v151 v154 (fun v150 => Q v150) E) E) E) E) E) E) (fun v149 => addSW v148 v149 (fun v147 => R v147) E) E) E)) (ss_one (st_ret (em_bin op_add_str o_addS (em_if (tm_cmp op_lt o_IB (em_var 0 iD a.1) em_int) em_str em_str) (em_if (tm_cmp (op_eqD (hu_ct _)) (o_eq eqf_int) (em_var 1 iD a.2) em_int) (em_var 2 sD z143) (em_bin op_add_str o_addS (em_bin op_add_str o_addS (em_sliceS (em_var 2 sD z143) om_none (om_some (em_bin op_sub o_II (em_callB call_len c_lenS (hm := h_len) (hv := bt_len) (ha := (am_cons (em_var 2 sD z143) am_nil))) (em_var 1 iD a.2)))) em_str) (em_sliceS (em_var 2 sD z143) (om_some (em_bin op_sub o_II (em_callB call_len c_lenS (hm := h_len) (hv := bt_len) (ha := (am_cons (em_var 2 sD z143) am_nil))) (em_var 1 iD a.2))) om_none)))))) rfl))))) rfl
/-! _law_plain -/
abbrev s_law_plain : Stmt := topS 26
def w_law_plain (a : Unit) : W Bool := fun Q E =>
  (M.bd (S := Unit) (T := Empty) (R := Bool) (fun (N : Unit → Prop) (R : Bool → Prop) (E : Str → Prop) => N ())
 (fun _ => (M.bd (S := Unit) (T := Empty) (R := Bool) (fun (N : Unit → Prop) (R : Bool → Prop) (E : Str → Prop) => (((fun (Q : (Int × Int) → Prop) (E : Str → Prop) => w_part_of ((1 : Int), (0 : Int)) (fun r173 => Q r173) E) (fun _ => False) (fun e => e = Str.ofString "NumberError") ∧ ((fun (Q : (Int × Int) → Prop) (E : Str → Prop) => w_divided (((1 : Int), (1 : Int)), ((0 : Int), (1 : Int))) (fun r172 => Q r172) E) (fun _ => False) (fun e => e = Str.ofString "NumberError") ∧ ((fun (Q : Str → Prop) (E : Str → Prop) => w_rounded_text (((1 : Int), (1 : Int)), (-(1 : Int))) (fun r171 => Q r171) E) (fun _ => False) (fun e => e = Str.ofString "NumberError") ∧ ((fun (Q : Str → Prop) (E : Str → Prop) => w_rounded_text (((1 : Int), (1 : Int)), (10 : Int)) (fun r170 => Q r170) E) (fun _ => False) (fun e => e = Str.ofString "NumberError") ∧ ((fun (Q : Int → Prop) (E : Str → Prop) => w_square_root ((-(1 : Int))) (fun r169 => Q r169) E) (fun _ => False) (fun e => e = Str.ofString "NumberError") ∧ ((fun (Q : Str → Prop) (E : Str → Prop) => w_root_text (((-(1 : Int)), (1 : Int)), (1 : Int)) (fun r168 => Q r168) E) (fun _ => False) (fun e => e = Str.ofString "NumberError") ∧ ((fun (Q : Str → Prop) (E : Str → Prop) => w_root_text (((1 : Int), (1 : Int)), (7 : Int)) (fun r167 => Q r167) E) (fun _ => False) (fun e => e = Str.ofString "NumberError") ∧ ((fun (Q : Str → Prop) (E : Str → Prop) => w_root_text (((1 : Int), (1 : Int)), (-(1 : Int))) (fun r166 => Q r166) E) (fun _ => False) (fun e => e = Str.ofString "NumberError") ∧ ((fun (Q : (Int × Int) → Prop) (E : Str → Prop) => w_read_part ((Str.ofString "")) (fun r165 => Q r165) E) (fun _ => False) (fun e => e = Str.ofString "NumberError") ∧ ((fun (Q : (Int × Int) → Prop) (E : Str → Prop) => w_read_part ((Str.ofString "-")) (fun r164 => Q r164) E) (fun _ => False) (fun e => e = Str.ofString "NumberError") ∧ ((fun (Q : (Int × Int) → Prop) (E : Str → Prop) => w_read_part ((Str.ofString "1.")) (fun r163 => Q r163) E) (fun _ => False) (fun e => e = Str.ofString "NumberError") ∧ ((fun (Q : (Int × Int) → Prop) (E : Str → Prop) => w_read_part ((Str.ofString ".5")) (fun r162 => Q r162) E) (fun _ => False) (fun e => e = Str.ofString "NumberError") ∧ ((fun (Q : (Int × Int) → Prop) (E : Str → Prop) => w_read_part ((Str.ofString "1/0")) (fun r161 => Q r161) E) (fun _ => False) (fun e => e = Str.ofString "NumberError") ∧ ((fun (Q : (Int × Int) → Prop) (E : Str → Prop) => w_read_part ((Str.ofString "1/-2")) (fun r160 => Q r160) E) (fun _ => False) (fun e => e = Str.ofString "NumberError") ∧ ((fun (Q : (Int × Int) → Prop) (E : Str → Prop) => w_read_part ((Str.ofString "1.2.3")) (fun r159 => Q r159) E) (fun _ => False) (fun e => e = Str.ofString "NumberError") ∧ ((fun (Q : (Int × Int) → Prop) (E : Str → Prop) => w_read_part ((Str.ofString "1234567890")) (fun r158 => Q r158) E) (fun _ => False) (fun e => e = Str.ofString "NumberError") ∧ ((fun (Q : (Int × Int) → Prop) (E : Str → Prop) => w_read_part ((Str.ofString "a")) (fun r157 => Q r157) E) (fun _ => False) (fun e => e = Str.ofString "NumberError") ∧ True))))))))))))))))) ∧ W.ite (!decide (([] : List Int) = ([] : (List Int)))) (W.ret true) (fun Q E => w_part_of ((6 : Int), (-(4 : Int))) (fun r176 => Q (!decide (r176 = ((-(3 : Int)), (2 : Int))))) E) (fun v175 => M.ite v175 (M.en (fun (N : Empty → Prop) (R : Bool → Prop) (E : Str → Prop) => R false)) (fun (N : Unit → Prop) (R : Bool → Prop) (E : Str → Prop) => N ()) N R E) E))
 (fun s174 => (M.bd (S := Unit) (T := Empty) (R := Bool) (fun (N : Unit → Prop) (R : Bool → Prop) (E : Str → Prop) => w_sum_of_two (((1 : Int), (2 : Int)), ((1 : Int), (3 : Int))) (fun r180 => W.ite (!decide (r180 = ((5 : Int), (6 : Int)))) (W.ret true) (fun Q E => w_divided (((1 : Int), (2 : Int)), ((3 : Int), (4 : Int))) (fun r179 => Q (!decide (r179 = ((2 : Int), (3 : Int))))) E) (fun v178 => M.ite v178 (M.en (fun (N : Empty → Prop) (R : Bool → Prop) (E : Str → Prop) => R false)) (fun (N : Unit → Prop) (R : Bool → Prop) (E : Str → Prop) => N ()) N R E) E) E)
 (fun s177 => (M.bd (S := Unit) (T := Empty) (R := Bool) (fun (N : Unit → Prop) (R : Bool → Prop) (E : Str → Prop) => w_in_part_order (([((1 : Int), (2 : Int)), ((1 : Int), (3 : Int)), ((2 : Int), (4 : Int))] : (List (Int × Int)))) (fun r182 => M.ite (!decide (r182 = ([((1 : Int), (3 : Int)), ((1 : Int), (2 : Int)), ((2 : Int), (4 : Int))] : (List (Int × Int))))) (M.en (fun (N : Empty → Prop) (R : Bool → Prop) (E : Str → Prop) => R false)) (fun (N : Unit → Prop) (R : Bool → Prop) (E : Str → Prop) => N ()) N R E) E)
 (fun s181 => (fun (N : Empty → Prop) (R : Bool → Prop) (E : Str → Prop) => w_rounded_text (((-(7 : Int)), (3 : Int)), (2 : Int)) (fun r203 => W.ite (decide (r203 = (Str.ofString "-2.33"))) (fun Q E => w_rounded_text (((1 : Int), (2 : Int)), (0 : Int)) (fun r202 => W.ite (decide (r202 = (Str.ofString "1"))) (fun Q E => w_rounded_text (((-(1 : Int)), (3 : Int)), (0 : Int)) (fun r201 => W.ite (decide (r201 = (Str.ofString "0"))) (fun Q E => w_square_root ((17 : Int)) (fun r200 => W.ite (decide (r200 = (4 : Int))) (fun Q E => w_root_text (((2 : Int), (1 : Int)), (4 : Int)) (fun r199 => W.ite (decide (r199 = (Str.ofString "1.4142"))) (fun Q E => w_read_part ((Str.ofString "-1.25")) (fun r198 => W.ite (decide (r198 = ((-(5 : Int)), (4 : Int)))) (fun Q E => w_read_part ((Str.ofString "3/6")) (fun r197 => W.ite (decide (r197 = ((1 : Int), (2 : Int)))) (fun Q E => w_common_whole ((12 : Int), (18 : Int)) (fun r196 => W.ite (decide (r196 = (6 : Int))) (fun Q E => w_is_count ((Str.ofString "0")) (fun r195 => W.ite r195 (fun Q E => w_is_count ((Str.ofString "")) (fun r194 => W.ite (!r194) (fun Q E => w_sum_parts__2 (([] : (List (Int × Int)))) (fun r193 => Q (decide (r193 = ((0 : Int), (1 : Int))))) E) (W.ret false) (fun v192 => Q v192) E) E) (W.ret false) (fun v191 => Q v191) E) E) (W.ret false) (fun v190 => Q v190) E) E) (W.ret false) (fun v189 => Q v189) E) E) (W.ret false) (fun v188 => Q v188) E) E) (W.ret false) (fun v187 => Q v187) E) E) (W.ret false) (fun v186 => Q v186) E) E) (W.ret false) (fun v185 => Q v185) E) E) (W.ret false) (fun v184 => Q v184) E) E) (W.ret false) (fun v183 => R v183) E) E))))))))) (fun _ => False) Q E
abbrev sg_law_plain : Sg := Sg.mk (A := Unit) (R := Bool) (fun a => []) bD w_law_plain
theorem sc_law_plain : FnScope [Str.ofString "bad", Str.ofString "f"] [] (defScope s_law_plain) := C8.fnScope_by (by decide +kernel)
theorem ok_law_plain {p : Str × Option Str} {Pt : Addr} {fd : FuncData} (F : DefAt K "_law_plain" s_law_plain [] (He.fAd K p) fd) (c_common_whole : Cal P w K mg base ca T 1 "common_whole" sg_common_whole []) (c_divided : Cal P w K mg base ca T 3 "divided" sg_divided []) (c_in_part_order : Cal P w K mg base ca T 2 "in_part_order" sg_in_part_order []) (c_is_count : Cal P w K mg base ca T 1 "is_count" sg_is_count []) (c_part_of : Cal P w K mg base ca T 2 "part_of" sg_part_of []) (c_read_part : Cal P w K mg base ca T 3 "read_part" sg_read_part []) (c_root_text : Cal P w K mg base ca T 2 "root_text" sg_root_text []) (c_rounded_text : Cal P w K mg base ca T 1 "rounded_text" sg_rounded_text []) (c_square_root : Cal P w K mg base ca T 1 "square_root" sg_square_root []) (c_sum_of_two : Cal P w K mg base ca T 3 "sum_of_two" sg_sum_of_two []) (c_sum_parts__2 : Cal P w K mg base ca T 4 "sum_parts" sg_sum_parts__2 []) (t_law_told : Told K mg ca "_law_told" "NumberError") (TB : LamX.TabB base mg (He.codeOf K p) Pt) (hT : (Pt, FO.tab ((envOfC (Str.ofString "_law_plain") (defScope s_law_plain) 0 0 .none).qual ++ "<lambda>")) ∈ T) :
    FnOk P w K mg base (L2.CX P w) 6 (He.fAd K p) fd [] (Sg.sp sg_law_plain K ca T) := by
  refine fn_mkC sg_law_plain (g := fun z : Empty => ([] : List Sl)) (mb := fun a => fun _ R' E => w_law_plain a R' E) F sc_law_plain (fun _ => rfl) (fun a Q E h => h) (fun A outer s H E hr a => ?_)
  exact ss_eqv (ss_cons (s1_eqv (m2 := (fun (N : Unit → Prop) (R : Bool → Prop) (E : Str → Prop) => N ())) (st_lams 0 (hT := hT) (TB := TB) (hcode := rfl) (hl := (.cons rfl (.cons rfl (.cons rfl (.cons rfl (.cons rfl (.cons rfl (.cons rfl (.cons rfl (.cons rfl (.cons rfl (.cons rfl (.cons rfl (.cons rfl (.cons rfl (.cons rfl (.cons rfl (.cons rfl .nil)))))))))))))))))) (hz := Nat.le_of_ble_eq_true rfl) (hi := rfl) (hx := .inl rfl)) rfl)
 (fun _ => (ss_cons (s1_eqv (m2 := (fun (N : Unit → Prop) (R : Bool → Prop) (E : Str → Prop) => (((fun (Q : (Int × Int) → Prop) (E : Str → Prop) => w_part_of ((1 : Int), (0 : Int)) (fun r173 => Q r173) E) (fun _ => False) (fun e => e = Str.ofString "NumberError") ∧ ((fun (Q : (Int × Int) → Prop) (E : Str → Prop) => w_divided (((1 : Int), (1 : Int)), ((0 : Int), (1 : Int))) (fun r172 => Q r172) E) (fun _ => False) (fun e => e = Str.ofString "NumberError") ∧ ((fun (Q : Str → Prop) (E : Str → Prop) => w_rounded_text (((1 : Int), (1 : Int)), (-(1 : Int))) (fun r171 => Q r171) E) (fun _ => False) (fun e => e = Str.ofString "NumberError") ∧ ((fun (Q : Str → Prop) (E : Str → Prop) => w_rounded_text (((1 : Int), (1 : Int)), (10 : Int)) (fun r170 => Q r170) E) (fun _ => False) (fun e => e = Str.ofString "NumberError") ∧ ((fun (Q : Int → Prop) (E : Str → Prop) => w_square_root ((-(1 : Int))) (fun r169 => Q r169) E) (fun _ => False) (fun e => e = Str.ofString "NumberError") ∧ ((fun (Q : Str → Prop) (E : Str → Prop) => w_root_text (((-(1 : Int)), (1 : Int)), (1 : Int)) (fun r168 => Q r168) E) (fun _ => False) (fun e => e = Str.ofString "NumberError") ∧ ((fun (Q : Str → Prop) (E : Str → Prop) => w_root_text (((1 : Int), (1 : Int)), (7 : Int)) (fun r167 => Q r167) E) (fun _ => False) (fun e => e = Str.ofString "NumberError") ∧ ((fun (Q : Str → Prop) (E : Str → Prop) => w_root_text (((1 : Int), (1 : Int)), (-(1 : Int))) (fun r166 => Q r166) E) (fun _ => False) (fun e => e = Str.ofString "NumberError") ∧ ((fun (Q : (Int × Int) → Prop) (E : Str → Prop) => w_read_part ((Str.ofString "")) (fun r165 => Q r165) E) (fun _ => False) (fun e => e = Str.ofString "NumberError") ∧ ((fun (Q : (Int × Int) → Prop) (E : Str → Prop) => w_read_part ((Str.ofString "-")) (fun r164 => Q r164) E) (fun _ => False) (fun e => e = Str.ofString "NumberError") ∧ ((fun (Q : (Int × Int) → Prop) (E : Str → Prop) => w_read_part ((Str.ofString "1.")) (fun r163 => Q r163) E) (fun _ => False) (fun e => e = Str.ofString "NumberError") ∧ ((fun (Q : (Int × Int) → Prop) (E : Str → Prop) => w_read_part ((Str.ofString ".5")) (fun r162 => Q r162) E) (fun _ => False) (fun e => e = Str.ofString "NumberError") ∧ ((fun (Q : (Int × Int) → Prop) (E : Str → Prop) => w_read_part ((Str.ofString "1/0")) (fun r161 => Q r161) E) (fun _ => False) (fun e => e = Str.ofString "NumberError") ∧ ((fun (Q : (Int × Int) → Prop) (E : Str → Prop) => w_read_part ((Str.ofString "1/-2")) (fun r160 => Q r160) E) (fun _ => False) (fun e => e = Str.ofString "NumberError") ∧ ((fun (Q : (Int × Int) → Prop) (E : Str → Prop) => w_read_part ((Str.ofString "1.2.3")) (fun r159 => Q r159) E) (fun _ => False) (fun e => e = Str.ofString "NumberError") ∧ ((fun (Q : (Int × Int) → Prop) (E : Str → Prop) => w_read_part ((Str.ofString "1234567890")) (fun r158 => Q r158) E) (fun _ => False) (fun e => e = Str.ofString "NumberError") ∧ ((fun (Q : (Int × Int) → Prop) (E : Str → Prop) => w_read_part ((Str.ofString "a")) (fun r157 => Q r157) E) (fun _ => False) (fun e => e = Str.ofString "NumberError") ∧ True))))))))))))))))) ∧ W.ite (!decide (([] : List Int) = ([] : (List Int)))) (W.ret true) (fun Q E => w_part_of ((6 : Int), (-(4 : Int))) (fun r176 => Q (!decide (r176 = ((-(3 : Int)), (2 : Int))))) E) (fun v175 => M.ite v175 (M.en (fun (N : Empty → Prop) (R : Bool → Prop) (E : Str → Prop) => R false)) (fun (N : Unit → Prop) (R : Bool → Prop) (E : Str → Prop) => N ()) N R E) E))) (st_if (g := (fun s174 : Unit => [.un, .un])) (tm_bool (xm_or (tm_cmp (op_neD (hu_ct _)) (o_ne (eqf_l eqf_int)) (em_badW (k := 3) (own := [(Str.ofString "f", 1)]) 0 1 (T := t_law_told) (hk := Nat.le_of_ble_eq_true rfl) (h0 := rfl) (hN := rfl) (hv := .inl rfl) (ok := blkOk_by (by rfl)) (hi := by decide) (hil := Nat.le_of_ble_eq_true rfl) (hNf := rfl) (hl := fun _ _ => .inl rfl) (hff := .inr fun _ _ => rfl) (hgt := fun _ _ _ _ _ => rfl) (hsp := (.cons rfl (raised1 (f := (t2 iD iD)) (by decide +kernel) (fun scope s0 Hz cc cl fp fa ca' A outer s H E hr ρ => (em_call (S := sg_part_of) c_part_of (ha := (am_cons em_int (am_cons em_int am_nil))) (g := fun b => (b.1, b.2.1)) (hf := fun _ => rfl)))) (.cons rfl (raised1 (f := (t2 iD iD)) (by decide +kernel) (fun scope s0 Hz cc cl fp fa ca' A outer s H E hr ρ => (em_call (S := sg_divided) c_divided (ha := (am_cons (em_tup (fc := (t2 iD iD)) (am_cons em_int (am_cons em_int am_nil)) (fun b => (b.1, b.2.1)) (fun b => ⟨[iD b.1, iD b.2.1], rfl, rfl, Nat.le_of_ble_eq_true rfl⟩)) (am_cons (em_tup (fc := (t2 iD iD)) (am_cons em_int (am_cons em_int am_nil)) (fun b => (b.1, b.2.1)) (fun b => ⟨[iD b.1, iD b.2.1], rfl, rfl, Nat.le_of_ble_eq_true rfl⟩)) am_nil))) (g := fun b => (b.1, b.2.1)) (hf := fun _ => rfl)))) (.cons rfl (raised1 (f := sD) (by decide +kernel) (fun scope s0 Hz cc cl fp fa ca' A outer s H E hr ρ => (em_call (S := sg_rounded_text) c_rounded_text (ha := (am_cons (em_tup (fc := (t2 iD iD)) (am_cons em_int (am_cons em_int am_nil)) (fun b => (b.1, b.2.1)) (fun b => ⟨[iD b.1, iD b.2.1], rfl, rfl, Nat.le_of_ble_eq_true rfl⟩)) (am_cons (em_neg em_int) am_nil))) (g := fun b => (b.1, b.2.1)) (hf := fun _ => rfl)))) (.cons rfl (raised1 (f := sD) (by decide +kernel) (fun scope s0 Hz cc cl fp fa ca' A outer s H E hr ρ => (em_call (S := sg_rounded_text) c_rounded_text (ha := (am_cons (em_tup (fc := (t2 iD iD)) (am_cons em_int (am_cons em_int am_nil)) (fun b => (b.1, b.2.1)) (fun b => ⟨[iD b.1, iD b.2.1], rfl, rfl, Nat.le_of_ble_eq_true rfl⟩)) (am_cons em_int am_nil))) (g := fun b => (b.1, b.2.1)) (hf := fun _ => rfl)))) (.cons rfl (raised1 (f := iD) (by decide +kernel) (fun scope s0 Hz cc cl fp fa ca' A outer s H E hr ρ => (em_call (S := sg_square_root) c_square_root (ha := (am_cons (em_neg em_int) am_nil)) (g := fun b => (b.1)) (hf := fun _ => rfl)))) (.cons rfl (raised1 (f := sD) (by decide +kernel) (fun scope s0 Hz cc cl fp fa ca' A outer s H E hr ρ => (em_call (S := sg_root_text) c_root_text (ha := (am_cons (em_tup (fc := (t2 iD iD)) (am_cons (em_neg em_int) (am_cons em_int am_nil)) (fun b => (b.1, b.2.1)) (fun b => ⟨[iD b.1, iD b.2.1], rfl, rfl, Nat.le_of_ble_eq_true rfl⟩)) (am_cons em_int am_nil))) (g := fun b => (b.1, b.2.1)) (hf := fun _ => rfl)))) (.cons rfl (raised1 (f := sD) (by decide +kernel) (fun scope s0 Hz cc cl fp fa ca' A outer s H E hr ρ => (em_call (S := sg_root_text) c_root_text (ha := (am_cons (em_tup (fc := (t2 iD iD)) (am_cons em_int (am_cons em_int am_nil)) (fun b => (b.1, b.2.1)) (fun b => ⟨[iD b.1, iD b.2.1], rfl, rfl, Nat.le_of_ble_eq_true rfl⟩)) (am_cons em_int am_nil))) (g := fun b => (b.1, b.2.1)) (hf := fun _ => rfl)))) (.cons rfl (raised1 (f := sD) (by decide +kernel) (fun scope s0 Hz cc cl fp fa ca' A outer s H E hr ρ => (em_call (S := sg_root_text) c_root_text (ha := (am_cons (em_tup (fc := (t2 iD iD)) (am_cons em_int (am_cons em_int am_nil)) (fun b => (b.1, b.2.1)) (fun b => ⟨[iD b.1, iD b.2.1], rfl, rfl, Nat.le_of_ble_eq_true rfl⟩)) (am_cons (em_neg em_int) am_nil))) (g := fun b => (b.1, b.2.1)) (hf := fun _ => rfl)))) (.cons rfl (raised1 (f := (t2 iD iD)) (by decide +kernel) (fun scope s0 Hz cc cl fp fa ca' A outer s H E hr ρ => (em_call (S := sg_read_part) c_read_part (ha := (am_cons em_str am_nil)) (g := fun b => (b.1)) (hf := fun _ => rfl)))) (.cons rfl (raised1 (f := (t2 iD iD)) (by decide +kernel) (fun scope s0 Hz cc cl fp fa ca' A outer s H E hr ρ => (em_call (S := sg_read_part) c_read_part (ha := (am_cons em_str am_nil)) (g := fun b => (b.1)) (hf := fun _ => rfl)))) (.cons rfl (raised1 (f := (t2 iD iD)) (by decide +kernel) (fun scope s0 Hz cc cl fp fa ca' A outer s H E hr ρ => (em_call (S := sg_read_part) c_read_part (ha := (am_cons em_str am_nil)) (g := fun b => (b.1)) (hf := fun _ => rfl)))) (.cons rfl (raised1 (f := (t2 iD iD)) (by decide +kernel) (fun scope s0 Hz cc cl fp fa ca' A outer s H E hr ρ => (em_call (S := sg_read_part) c_read_part (ha := (am_cons em_str am_nil)) (g := fun b => (b.1)) (hf := fun _ => rfl)))) (.cons rfl (raised1 (f := (t2 iD iD)) (by decide +kernel) (fun scope s0 Hz cc cl fp fa ca' A outer s H E hr ρ => (em_call (S := sg_read_part) c_read_part (ha := (am_cons em_str am_nil)) (g := fun b => (b.1)) (hf := fun _ => rfl)))) (.cons rfl (raised1 (f := (t2 iD iD)) (by decide +kernel) (fun scope s0 Hz cc cl fp fa ca' A outer s H E hr ρ => (em_call (S := sg_read_part) c_read_part (ha := (am_cons em_str am_nil)) (g := fun b => (b.1)) (hf := fun _ => rfl)))) (.cons rfl (raised1 (f := (t2 iD iD)) (by decide +kernel) (fun scope s0 Hz cc cl fp fa ca' A outer s H E hr ρ => (em_call (S := sg_read_part) c_read_part (ha := (am_cons em_str am_nil)) (g := fun b => (b.1)) (hf := fun _ => rfl)))) (.cons rfl (raised1 (f := (t2 iD iD)) (by decide +kernel) (fun scope s0 Hz cc cl fp fa ca' A outer s H E hr ρ => (em_call (S := sg_read_part) c_read_part (ha := (am_cons em_str am_nil)) (g := fun b => (b.1)) (hf := fun _ => rfl)))) (.cons rfl (raised1 (f := (t2 iD iD)) (by decide +kernel) (fun scope s0 Hz cc cl fp fa ca' A outer s H E hr ρ => (em_call (S := sg_read_part) c_read_part (ha := (am_cons em_str am_nil)) (g := fun b => (b.1)) (hf := fun _ => rfl)))) .nil))))))))))))))))))) (em_lst (fc := (lD iD)) (γ := (List Int)) am_nil (fun b => []) (fun b => ⟨[], rfl, rfl, Nat.le_of_ble_eq_true rfl⟩))) (xm_or1 (tm_cmp (op_neD (hu_ct _)) (o_ne (eqf_t2 eqf_int eqf_int)) (em_call (S := sg_part_of) c_part_of (ha := (am_cons em_int (am_cons (em_neg em_int) am_nil))) (g := fun b => (b.1, b.2.1)) (hf := fun _ => rfl)) (em_tup (fc := (t2 iD iD)) (am_cons (em_neg em_int) (am_cons em_int am_nil)) (fun b => (b.1, b.2.1)) (fun b => ⟨[iD b.1, iD b.2.1], rfl, rfl, Nat.le_of_ble_eq_true rfl⟩)))))) (ss_end (ss_eqv (m2 := (fun (N : Empty → Prop) (R : Bool → Prop) (E : Str → Prop) => R false)) (ss_one (st_ret em_bl)) rfl)) (ss_done (T := Unit) () (.drop (.same .nil)))) rfl)
 (fun s174 => (ss_cons (s1_eqv (m2 := (fun (N : Unit → Prop) (R : Bool → Prop) (E : Str → Prop) => w_sum_of_two (((1 : Int), (2 : Int)), ((1 : Int), (3 : Int))) (fun r180 => W.ite (!decide (r180 = ((5 : Int), (6 : Int)))) (W.ret true) (fun Q E => w_divided (((1 : Int), (2 : Int)), ((3 : Int), (4 : Int))) (fun r179 => Q (!decide (r179 = ((2 : Int), (3 : Int))))) E) (fun v178 => M.ite v178 (M.en (fun (N : Empty → Prop) (R : Bool → Prop) (E : Str → Prop) => R false)) (fun (N : Unit → Prop) (R : Bool → Prop) (E : Str → Prop) => N ()) N R E) E) E)) (st_if (g := (fun s177 : Unit => [.un, .un])) (tm_bool (xm_or (tm_cmp (op_neD (hu_ct _)) (o_ne (eqf_t2 eqf_int eqf_int)) (em_call (S := sg_sum_of_two) c_sum_of_two (ha := (am_cons (em_tup (fc := (t2 iD iD)) (am_cons em_int (am_cons em_int am_nil)) (fun b => (b.1, b.2.1)) (fun b => ⟨[iD b.1, iD b.2.1], rfl, rfl, Nat.le_of_ble_eq_true rfl⟩)) (am_cons (em_tup (fc := (t2 iD iD)) (am_cons em_int (am_cons em_int am_nil)) (fun b => (b.1, b.2.1)) (fun b => ⟨[iD b.1, iD b.2.1], rfl, rfl, Nat.le_of_ble_eq_true rfl⟩)) am_nil))) (g := fun b => (b.1, b.2.1)) (hf := fun _ => rfl)) (em_tup (fc := (t2 iD iD)) (am_cons em_int (am_cons em_int am_nil)) (fun b => (b.1, b.2.1)) (fun b => ⟨[iD b.1, iD b.2.1], rfl, rfl, Nat.le_of_ble_eq_true rfl⟩))) (xm_or1 (tm_cmp (op_neD (hu_ct _)) (o_ne (eqf_t2 eqf_int eqf_int)) (em_call (S := sg_divided) c_divided (ha := (am_cons (em_tup (fc := (t2 iD iD)) (am_cons em_int (am_cons em_int am_nil)) (fun b => (b.1, b.2.1)) (fun b => ⟨[iD b.1, iD b.2.1], rfl, rfl, Nat.le_of_ble_eq_true rfl⟩)) (am_cons (em_tup (fc := (t2 iD iD)) (am_cons em_int (am_cons em_int am_nil)) (fun b => (b.1, b.2.1)) (fun b => ⟨[iD b.1, iD b.2.1], rfl, rfl, Nat.le_of_ble_eq_true rfl⟩)) am_nil))) (g := fun b => (b.1, b.2.1)) (hf := fun _ => rfl)) (em_tup (fc := (t2 iD iD)) (am_cons em_int (am_cons em_int am_nil)) (fun b => (b.1, b.2.1)) (fun b => ⟨[iD b.1, iD b.2.1], rfl, rfl, Nat.le_of_ble_eq_true rfl⟩)))))) (ss_end (ss_eqv (m2 := (fun (N : Empty → Prop) (R : Bool → Prop) (E : Str → Prop) => R false)) (ss_one (st_ret em_bl)) rfl)) (ss_done (T := Unit) () (.same (.same .nil)))) rfl)
 (fun s177 => (ss_cons (s1_eqv (m2 := (fun (N : Unit → Prop) (R : Bool → Prop) (E : Str → Prop) => w_in_part_order (([((1 : Int), (2 : Int)), ((1 : Int), (3 : Int)), ((2 : Int), (4 : Int))] : (List (Int × Int)))) (fun r182 => M.ite (!decide (r182 = ([((1 : Int), (3 : Int)), ((1 : Int), (2 : Int)), ((2 : Int), (4 : Int))] : (List (Int × Int))))) (M.en (fun (N : Empty → Prop) (R : Bool → Prop) (E : Str → Prop) => R false)) (fun (N : Unit → Prop) (R : Bool → Prop) (E : Str → Prop) => N ()) N R E) E)) (st_if (g := (fun s181 : Unit => [.un, .un])) (tm_cmp (op_neD (hu_ct _)) (o_ne (eqf_t (eqf_t2 eqf_int eqf_int))) (em_call (S := sg_in_part_order) c_in_part_order (ha := (am_cons (em_lst (fc := (lD (t2 iD iD))) (γ := (List (Int × Int))) (am_cons (em_tup (fc := (t2 iD iD)) (am_cons em_int (am_cons em_int am_nil)) (fun b => (b.1, b.2.1)) (fun b => ⟨[iD b.1, iD b.2.1], rfl, rfl, Nat.le_of_ble_eq_true rfl⟩)) (am_cons (em_tup (fc := (t2 iD iD)) (am_cons em_int (am_cons em_int am_nil)) (fun b => (b.1, b.2.1)) (fun b => ⟨[iD b.1, iD b.2.1], rfl, rfl, Nat.le_of_ble_eq_true rfl⟩)) (am_cons (em_tup (fc := (t2 iD iD)) (am_cons em_int (am_cons em_int am_nil)) (fun b => (b.1, b.2.1)) (fun b => ⟨[iD b.1, iD b.2.1], rfl, rfl, Nat.le_of_ble_eq_true rfl⟩)) am_nil))) (fun b => [b.1, b.2.1, b.2.2.1]) (fun b => ⟨[(t2 iD iD) b.1, (t2 iD iD) b.2.1, (t2 iD iD) b.2.2.1], rfl, rfl, Nat.le_of_ble_eq_true rfl⟩)) am_nil)) (g := fun b => (b.1)) (hf := fun _ => rfl)) (em_tup (fc := (tD (t2 iD iD))) (γ := (List (Int × Int))) (am_cons (em_tup (fc := (t2 iD iD)) (am_cons em_int (am_cons em_int am_nil)) (fun b => (b.1, b.2.1)) (fun b => ⟨[iD b.1, iD b.2.1], rfl, rfl, Nat.le_of_ble_eq_true rfl⟩)) (am_cons (em_tup (fc := (t2 iD iD)) (am_cons em_int (am_cons em_int am_nil)) (fun b => (b.1, b.2.1)) (fun b => ⟨[iD b.1, iD b.2.1], rfl, rfl, Nat.le_of_ble_eq_true rfl⟩)) (am_cons (em_tup (fc := (t2 iD iD)) (am_cons em_int (am_cons em_int am_nil)) (fun b => (b.1, b.2.1)) (fun b => ⟨[iD b.1, iD b.2.1], rfl, rfl, Nat.le_of_ble_eq_true rfl⟩)) am_nil))) (fun b => [b.1, b.2.1, b.2.2.1]) (fun b => ⟨[(t2 iD iD) b.1, (t2 iD iD) b.2.1, (t2 iD iD) b.2.2.1], rfl, rfl, Nat.le_of_ble_eq_true rfl⟩))) (ss_end (ss_eqv (m2 := (fun (N : Empty → Prop) (R : Bool → Prop) (E : Str → Prop) => R false)) (ss_one (st_ret em_bl)) rfl)) (ss_done (T := Unit) () (.same (.same .nil)))) rfl)
 (fun s181 => (ss_eqv (m2 := (fun (N : Empty → Prop) (R : Bool → Prop) (E : Str → Prop) => w_rounded_text (((-(7 : Int)), (3 : Int)), (2 : Int)) (fun r203 => W.ite (decide (r203 = (Str.ofString "-2.33"))) (fun Q E => w_rounded_text (((1 : Int), (2 : Int)), (0 : Int)) (fun r202 => W.ite (decide (r202 = (Str.ofString "1"))) (fun Q E => w_rounded_text (((-(1 : Int)), (3 : Int)), (0 : Int)) (fun r201 => W.ite (decide (r201 = (Str.ofString "0"))) (fun Q E => w_square_root ((17 : Int)) (fun r200 => W.ite (decide (r200 = (4 : Int))) (fun Q E => w_root_text (((2 : Int), (1 : Int)), (4 : Int)) (fun r199 => W.ite (decide (r199 = (Str.ofString "1.4142"))) (fun Q E => w_read_part ((Str.ofString "-1.25")) (fun r198 => W.ite (decide (r198 = ((-(5 : Int)), (4 : Int)))) (fun Q E => w_read_part ((Str.ofString "3/6")) (fun r197 => W.ite (decide (r197 = ((1 : Int), (2 : Int)))) (fun Q E => w_common_whole ((12 : Int), (18 : Int)) (fun r196 => W.ite (decide (r196 = (6 : Int))) (fun Q E => w_is_count ((Str.ofString "0")) (fun r195 => W.ite r195 (fun Q E => w_is_count ((Str.ofString "")) (fun r194 => W.ite (!r194) (fun Q E => w_sum_parts__2 (([] : (List (Int × Int)))) (fun r193 => Q (decide (r193 = ((0 : Int), (1 : Int))))) E) (W.ret false) (fun v192 => Q v192) E) E) (W.ret false) (fun v191 => Q v191) E) E) (W.ret false) (fun v190 => Q v190) E) E) (W.ret false) (fun v189 => Q v189) E) E) (W.ret false) (fun v188 => Q v188) E) E) (W.ret false) (fun v187 => Q v187) E) E) (W.ret false) (fun v186 => Q v186) E) E) (W.ret false) (fun v185 => Q v185) E) E) (W.ret false) (fun v184 => Q v184) E) E) (W.ret false) (fun v183 => R v183) E) E)) (ss_one (st_ret (em_and (em_cmp op_eq o_eqS (em_call (S := sg_rounded_text) c_rounded_text (ha := (am_cons (em_tup (fc := (t2 iD iD)) (am_cons (em_neg em_int) (am_cons em_int am_nil)) (fun b => (b.1, b.2.1)) (fun b => ⟨[iD b.1, iD b.2.1], rfl, rfl, Nat.le_of_ble_eq_true rfl⟩)) (am_cons em_int am_nil))) (g := fun b => (b.1, b.2.1)) (hf := fun _ => rfl)) em_str) (em_and (em_cmp op_eq o_eqS (em_call (S := sg_rounded_text) c_rounded_text (ha := (am_cons (em_tup (fc := (t2 iD iD)) (am_cons em_int (am_cons em_int am_nil)) (fun b => (b.1, b.2.1)) (fun b => ⟨[iD b.1, iD b.2.1], rfl, rfl, Nat.le_of_ble_eq_true rfl⟩)) (am_cons em_int am_nil))) (g := fun b => (b.1, b.2.1)) (hf := fun _ => rfl)) em_str) (em_and (em_cmp op_eq o_eqS (em_call (S := sg_rounded_text) c_rounded_text (ha := (am_cons (em_tup (fc := (t2 iD iD)) (am_cons (em_neg em_int) (am_cons em_int am_nil)) (fun b => (b.1, b.2.1)) (fun b => ⟨[iD b.1, iD b.2.1], rfl, rfl, Nat.le_of_ble_eq_true rfl⟩)) (am_cons em_int am_nil))) (g := fun b => (b.1, b.2.1)) (hf := fun _ => rfl)) em_str) (em_and (em_cmp (op_eqD (hu_ct _)) (o_eq eqf_int) (em_call (S := sg_square_root) c_square_root (ha := (am_cons em_int am_nil)) (g := fun b => (b.1)) (hf := fun _ => rfl)) em_int) (em_and (em_cmp op_eq o_eqS (em_call (S := sg_root_text) c_root_text (ha := (am_cons (em_tup (fc := (t2 iD iD)) (am_cons em_int (am_cons em_int am_nil)) (fun b => (b.1, b.2.1)) (fun b => ⟨[iD b.1, iD b.2.1], rfl, rfl, Nat.le_of_ble_eq_true rfl⟩)) (am_cons em_int am_nil))) (g := fun b => (b.1, b.2.1)) (hf := fun _ => rfl)) em_str) (em_and (em_cmp (op_eqD (hu_ct _)) (o_eq (eqf_t2 eqf_int eqf_int)) (em_call (S := sg_read_part) c_read_part (ha := (am_cons em_str am_nil)) (g := fun b => (b.1)) (hf := fun _ => rfl)) (em_tup (fc := (t2 iD iD)) (am_cons (em_neg em_int) (am_cons em_int am_nil)) (fun b => (b.1, b.2.1)) (fun b => ⟨[iD b.1, iD b.2.1], rfl, rfl, Nat.le_of_ble_eq_true rfl⟩))) (em_and (em_cmp (op_eqD (hu_ct _)) (o_eq (eqf_t2 eqf_int eqf_int)) (em_call (S := sg_read_part) c_read_part (ha := (am_cons em_str am_nil)) (g := fun b => (b.1)) (hf := fun _ => rfl)) (em_tup (fc := (t2 iD iD)) (am_cons em_int (am_cons em_int am_nil)) (fun b => (b.1, b.2.1)) (fun b => ⟨[iD b.1, iD b.2.1], rfl, rfl, Nat.le_of_ble_eq_true rfl⟩))) (em_and (em_cmp (op_eqD (hu_ct _)) (o_eq eqf_int) (em_call (S := sg_common_whole) c_common_whole (ha := (am_cons em_int (am_cons em_int am_nil))) (g := fun b => (b.1, b.2.1)) (hf := fun _ => rfl)) em_int) (em_and (em_call (S := sg_is_count) c_is_count (ha := (am_cons em_str am_nil)) (g := fun b => (b.1)) (hf := fun _ => rfl)) (em_and (em_not (em_call (S := sg_is_count) c_is_count (ha := (am_cons em_str am_nil)) (g := fun b => (b.1)) (hf := fun _ => rfl))) (em_one (em_cmp (op_eqD (hu_ct _)) (o_eq (eqf_t2 eqf_int eqf_int)) (em_call (S := sg_sum_parts__2) c_sum_parts__2 (ha := (am_cons (em_tup (fc := (tD (t2 iD iD))) (γ := (List (Int × Int))) am_nil (fun b => []) (fun b => ⟨[], rfl, rfl, Nat.le_of_ble_eq_true rfl⟩)) am_nil)) (g := fun b => (b.1)) (hf := fun _ => rfl)) (em_tup (fc := (t2 iD iD)) (am_cons em_int (am_cons em_int am_nil)) (fun b => (b.1, b.2.1)) (fun b => ⟨[iD b.1, iD b.2.1], rfl, rfl, Nat.le_of_ble_eq_true rfl⟩)))))))))))))))) rfl))))))))) rfl
/-! law -/
abbrev s_law : Stmt := topS 27
def w_law (a : (List Int)) : W Bool := fun Q E =>
  (M.bd (S := (List Int)) (T := Empty) (R := Bool) (fun (N : (List Int) → Prop) (R : Bool → Prop) (E : Str → Prop) => N ([(1 : Int), (10 : Int), (100 : Int), (1000 : Int), (10000 : Int)] : (List Int)))
 (fun z204 => (M.bd (S := Unit) (T := Empty) (R := Bool) (fun (N : Unit → Prop) (R : Bool → Prop) (E : Str → Prop) => (M.bd (S := Unit) (T := Unit) (R := Bool) (fun (N : Unit → Prop) (R : Bool → Prop) (E : Str → Prop) => (RgOk 0 (6 : Int) ∧ M.for (S := Unit) (R := Bool) (rgL 0 (6 : Int)) () (fun s206 => fun x207 : Int => (M.bd (S := ((Int × Int) × (Int × Int))) (T := Unit) (R := Bool) (fun (N : ((Int × Int) × (Int × Int)) → Prop) (R : Bool → Prop) (E : Str → Prop) => w_law_drawn () (fun r209 => w_law_drawn () (fun r210 => N (r209, r210)) E) E)
 (fun z208 => (M.bd (S := ((Int × Int) × (Int × Int))) (T := Unit) (R := Bool) (fun (N : ((Int × Int) × (Int × Int)) → Prop) (R : Bool → Prop) (E : Str → Prop) => N (z208.1, z208.2))
 (fun z211 => (M.bd (S := (Int × Int)) (T := Unit) (R := Bool) (fun (N : (Int × Int) → Prop) (R : Bool → Prop) (E : Str → Prop) => w_law_roll ((200 : Int)) (fun r213 => w_law_roll ((41 : Int)) (fun r214 => N ((r213 - (100 : Int)), (r214 - (20 : Int)))) E) E)
 (fun z212 => (M.bd (S := Unit) (T := Unit) (R := Bool) (fun (N : Unit → Prop) (R : Bool → Prop) (E : Str → Prop) => toldW (Str.ofString "NumberError") (fun (Q : (Int × Int) → Prop) (E : Str → Prop) => w_part_of (z212.1, z212.2) (fun r223 => Q r223) E) (fun r222 => W.ite (decide (z212.2 = (0 : Int))) (fun Q E => Q none) (fun Q E => w_law_low (z212.1, z212.2) (fun r225 => Q (some r225)) E) (fun v224 => W.ite (!decide (r222 = v224)) (W.ret true) (fun Q E => w_sum_of_two (z208.1, z208.2) (fun r220 => (MulOk z211.1.1 z211.2.2 ∧ (MulOk z211.2.1 z211.1.2 ∧ (MulOk z211.1.2 z211.2.2 ∧ w_law_low (((z211.1.1 * z211.2.2) + (z211.2.1 * z211.1.2)), (z211.1.2 * z211.2.2)) (fun r221 => W.ite (!decide (r220 = r221)) (W.ret true) (fun Q E => w_less_of (z208.1, z208.2) (fun r218 => (MulOk z211.1.1 z211.2.2 ∧ (MulOk z211.2.1 z211.1.2 ∧ (MulOk z211.1.2 z211.2.2 ∧ w_law_low (((z211.1.1 * z211.2.2) - (z211.2.1 * z211.1.2)), (z211.1.2 * z211.2.2)) (fun r219 => Q (!decide (r218 = r219))) E)))) E) (fun v217 => Q v217) E) E)))) E) (fun v216 => M.ite v216 (M.en (fun (N : Empty → Prop) (R : Bool → Prop) (E : Str → Prop) => R false)) (fun (N : Unit → Prop) (R : Bool → Prop) (E : Str → Prop) => N ()) N R E) E) E) E)
 (fun s215 => (M.bd (S := Unit) (T := Unit) (R := Bool) (fun (N : Unit → Prop) (R : Bool → Prop) (E : Str → Prop) => w_times_of (z208.1, z208.2) (fun r234 => (MulOk z211.1.1 z211.2.1 ∧ (MulOk z211.1.2 z211.2.2 ∧ w_law_low ((z211.1.1 * z211.2.1), (z211.1.2 * z211.2.2)) (fun r235 => W.ite (!decide (r234 = r235)) (W.ret true) (fun Q E => toldW (Str.ofString "NumberError") (fun (Q : (Int × Int) → Prop) (E : Str → Prop) => w_divided (z208.1, z208.2) (fun r231 => Q r231) E) (fun r230 => W.ite (decide (z211.2.1 = (0 : Int))) (fun Q E => Q none) (fun Q E => (MulOk z211.1.1 z211.2.2 ∧ (MulOk z211.1.2 z211.2.1 ∧ w_law_low ((z211.1.1 * z211.2.2), (z211.1.2 * z211.2.1)) (fun r233 => Q (some r233)) E))) (fun v232 => W.ite (!decide (r230 = v232)) (W.ret true) (fun Q E => w_is_below (z208.1, z208.2) (fun r229 => (MulOk z211.1.1 z211.2.2 ∧ (MulOk z211.2.1 z211.1.2 ∧ Q (!decide (r229 = (decide ((z211.1.1 * z211.2.2) < (z211.2.1 * z211.1.2)))))))) E) (fun v228 => Q v228) E) E) E) (fun v227 => M.ite v227 (M.en (fun (N : Empty → Prop) (R : Bool → Prop) (E : Str → Prop) => R false)) (fun (N : Unit → Prop) (R : Bool → Prop) (E : Str → Prop) => N ()) N R E) E) E))) E)
 (fun s226 => (M.bd (S := Int) (T := Unit) (R := Bool) (fun (N : Int → Prop) (R : Bool → Prop) (E : Str → Prop) => w_law_roll ((5 : Int)) (fun r237 => N r237) E)
 (fun z236 => (M.bd (S := Int) (T := Unit) (R := Bool) (fun (N : Int → Prop) (R : Bool → Prop) (E : Str → Prop) => ixW z204 z236 (fun v239 => N v239) E)
 (fun z238 => (M.bd (S := Int) (T := Unit) (R := Bool) (fun (N : Int → Prop) (R : Bool → Prop) (E : Str → Prop) => (MulOk (maxI z211.1.1 (-z211.1.1)) z238 ∧ (DivOk ((maxI z211.1.1 (-z211.1.1)) * z238) z211.1.2 ∧ (MulOk (maxI z211.1.1 (-z211.1.1)) z238 ∧ (DivOk ((maxI z211.1.1 (-z211.1.1)) * z238) z211.1.2 ∧ (RgOk (Int.fdiv ((maxI z211.1.1 (-z211.1.1)) * z238) z211.1.2) ((Int.fdiv ((maxI z211.1.1 (-z211.1.1)) * z238) z211.1.2) + (2 : Int)) ∧ W.fm (rgL (Int.fdiv ((maxI z211.1.1 (-z211.1.1)) * z238) z211.1.2) ((Int.fdiv ((maxI z211.1.1 (-z211.1.1)) * z238) z211.1.2) + (2 : Int))) (fun x241 : Int => fun Q E => (MulOk (2 : Int) x241 ∧ (MulOk (((2 : Int) * x241) - (1 : Int)) z211.1.2 ∧ (MulOk (2 : Int) (maxI z211.1.1 (-z211.1.1)) ∧ (MulOk ((2 : Int) * (maxI z211.1.1 (-z211.1.1))) z238 ∧ W.ite (decide (((((2 : Int) * x241) - (1 : Int)) * z211.1.2) ≤ (((2 : Int) * (maxI z211.1.1 (-z211.1.1))) * z238))) (fun Q E => (MulOk (2 : Int) x241 ∧ (MulOk (((2 : Int) * x241) + (1 : Int)) z211.1.2 ∧ Q (decide ((((2 : Int) * (maxI z211.1.1 (-z211.1.1))) * z238) < ((((2 : Int) * x241) + (1 : Int)) * z211.1.2)))))) (W.ret false) (fun v245 => W.ite v245 (fun Q E => Q (some x241)) (W.ret none) Q E) E))))) (fun r243 => ixW r243 (0 : Int) (fun v242 => N v242) E) (fun _ => False)))))))
 (fun z240 => (M.bd (S := Unit) (T := Unit) (R := Bool) (fun (N : Unit → Prop) (R : Bool → Prop) (E : Str → Prop) => w_rounded_text (z208.1, z236) (fun r247 => W.ite (decide (z211.1.1 < (0 : Int))) (fun Q E => Q (-z240)) (fun Q E => Q z240) (fun v248 => w_law_figures (v248, z236) (fun r249 => M.ite (!decide (r247 = r249)) (M.en (fun (N : Empty → Prop) (R : Bool → Prop) (E : Str → Prop) => R false)) (fun (N : Unit → Prop) (R : Bool → Prop) (E : Str → Prop) => N ()) N R E) E) E) E)
 (fun s246 => (M.bd (S := (Int × Int)) (T := Unit) (R := Bool) (fun (N : (Int × Int) → Prop) (R : Bool → Prop) (E : Str → Prop) => N ((maxI z211.1.1 (-z211.1.1)), z211.1.2))
 (fun z250 => (M.bd (S := Int) (T := Unit) (R := Bool) (fun (N : Int → Prop) (R : Bool → Prop) (E : Str → Prop) => (MulOk z250.1 z238 ∧ (MulOk (z250.1 * z238) z238 ∧ (DivOk ((z250.1 * z238) * z238) z250.2 ∧ w_square_root ((Int.fdiv ((z250.1 * z238) * z238) z250.2)) (fun r252 => N r252) E))))
 (fun z251 => (M.bd (S := Unit) (T := Unit) (R := Bool) (fun (N : Unit → Prop) (R : Bool → Prop) (E : Str → Prop) => (MulOk z251 z251 ∧ (MulOk (z251 * z251) z211.1.2 ∧ (MulOk z250.1 z238 ∧ (MulOk (z250.1 * z238) z238 ∧ W.ite (decide (((z251 * z251) * z211.1.2) ≤ ((z250.1 * z238) * z238))) (fun Q E => (MulOk (z251 + (1 : Int)) (z251 + (1 : Int)) ∧ (MulOk ((z251 + (1 : Int)) * (z251 + (1 : Int))) z211.1.2 ∧ Q (decide (((z250.1 * z238) * z238) < (((z251 + (1 : Int)) * (z251 + (1 : Int))) * z211.1.2)))))) (W.ret false) (fun v254 => M.ite (!v254) (M.en (fun (N : Empty → Prop) (R : Bool → Prop) (E : Str → Prop) => R false)) (fun (N : Unit → Prop) (R : Bool → Prop) (E : Str → Prop) => N ()) N R E) E)))))
 (fun s253 => (M.bd (S := Unit) (T := Unit) (R := Bool) (fun (N : Unit → Prop) (R : Bool → Prop) (E : Str → Prop) => w_root_text (z250, z236) (fun r256 => w_law_figures (z251, z236) (fun r257 => M.ite (!decide (r256 = r257)) (M.en (fun (N : Empty → Prop) (R : Bool → Prop) (E : Str → Prop) => R false)) (fun (N : Unit → Prop) (R : Bool → Prop) (E : Str → Prop) => N ()) N R E) E) E)
 (fun s255 => (M.bd (S := Str) (T := Unit) (R := Bool) (fun (N : Str → Prop) (R : Bool → Prop) (E : Str → Prop) => (MulOk z212.1 (7 : Int) ∧ w_law_figures ((z212.1 * (7 : Int)), z236) (fun r259 => N r259) E))
 (fun z258 => (M.bd (S := Unit) (T := Unit) (R := Bool) (fun (N : Unit → Prop) (R : Bool → Prop) (E : Str → Prop) => w_read_part (z258) (fun r267 => (MulOk z212.1 (7 : Int) ∧ w_law_low ((z212.1 * (7 : Int)), z238) (fun r268 => W.ite (!decide (r267 = r268)) (W.ret true) (fun Q E => strW z211.1.1 (fun v264 => addSW v264 (Str.ofString "/") (fun v263 => strW z211.1.2 (fun v265 => addSW v263 v265 (fun v262 => w_read_part (v262) (fun r266 => Q (!decide (r266 = z208.1))) E) E) E) E) E) (fun v261 => M.ite v261 (M.en (fun (N : Empty → Prop) (R : Bool → Prop) (E : Str → Prop) => R false)) (fun (N : Unit → Prop) (R : Bool → Prop) (E : Str → Prop) => N ()) N R E) E) E)) E)
 (fun s260 => (fun (N : Unit → Prop) (R : Bool → Prop) (E : Str → Prop) => N ())))))))))))))))))))))))))))))))) N R E))
 (fun s206 => (M.bd (S := (List (Int × Int))) (T := Unit) (R := Bool) (fun (N : (List (Int × Int)) → Prop) (R : Bool → Prop) (E : Str → Prop) => w_law_roll ((8 : Int)) (fun r273 => (RgOk 0 r273 ∧ W.fm (rgL 0 r273) (fun x270 : Int => fun Q E => w_law_drawn () (fun r272 => Q (some r272)) E) (fun r271 => N r271) (fun _ => False))) E)
 (fun z269 => (M.bd (S := (Int × Int)) (T := Unit) (R := Bool) (fun (N : (Int × Int) → Prop) (R : Bool → Prop) (E : Str → Prop) => N ((0 : Int), (1 : Int)))
 (fun z274 => (M.bd (S := ((Int × Int))) (T := Unit) (R := Bool) (fun (N : ((Int × Int)) → Prop) (R : Bool → Prop) (E : Str → Prop) => M.for (S := ((Int × Int))) (R := Bool) z269 (z274) (fun s275 => fun x276 : (Int × Int) => (M.bd (S := (Int × Int)) (T := ((Int × Int))) (R := Bool) (fun (N : (Int × Int) → Prop) (R : Bool → Prop) (E : Str → Prop) => (MulOk s275.1 x276.2 ∧ (MulOk x276.1 s275.2 ∧ (MulOk s275.2 x276.2 ∧ w_law_low (((s275.1 * x276.2) + (x276.1 * s275.2)), (s275.2 * x276.2)) (fun r278 => N r278) E))))
 (fun z277 => (fun (N : ((Int × Int)) → Prop) (R : Bool → Prop) (E : Str → Prop) => N (z277))))) N R E)
 (fun s275 => (M.bd (S := (List (Int × Int))) (T := Unit) (R := Bool) (fun (N : (List (Int × Int)) → Prop) (R : Bool → Prop) (E : Str → Prop) => w_in_part_order (z269) (fun r280 => N r280) E)
 (fun z279 => (M.bd (S := Unit) (T := Unit) (R := Bool) (fun (N : Unit → Prop) (R : Bool → Prop) (E : Str → Prop) => w_sum_parts (z269) (fun r285 => W.ite (!decide (r285 = s275)) (W.ret true) (fun Q E => sortPW z279 (fun v283 => sortPW z269 (fun v284 => Q (!decide (v283 = v284))) E) E) (fun v282 => M.ite v282 (M.en (fun (N : Empty → Prop) (R : Bool → Prop) (E : Str → Prop) => R false)) (fun (N : Unit → Prop) (R : Bool → Prop) (E : Str → Prop) => N ()) N R E) E) E)
 (fun s281 => (M.bd (S := Unit) (T := Unit) (R := Bool) (fun (N : Unit → Prop) (R : Bool → Prop) (E : Str → Prop) => W.fm (List.zip z279 (cutL z279 (some (1 : Int)) none)) (fun x286 : ((Int × Int) × (Int × Int)) => fun Q E => (MulOk x286.1.1 x286.2.2 ∧ (MulOk x286.2.1 x286.1.2 ∧ W.ite (decide ((x286.2.1 * x286.1.2) < (x286.1.1 * x286.2.2))) (fun Q E => Q (some (1 : Int))) (W.ret none) Q E))) (fun r288 => M.ite (!decide (r288 = ([] : (List Int)))) (M.en (fun (N : Empty → Prop) (R : Bool → Prop) (E : Str → Prop) => R false)) (fun (N : Unit → Prop) (R : Bool → Prop) (E : Str → Prop) => N ()) N R E) (fun _ => False))
 (fun s287 => (M.bd (S := Str) (T := Unit) (R := Bool) (fun (N : Str → Prop) (R : Bool → Prop) (E : Str → Prop) => w_law_roll ((6 : Int)) (fun r296 => (RgOk 0 r296 ∧ W.fm (rgL 0 r296) (fun x291 : Int => fun Q E => w_law_roll ((13 : Int)) (fun r295 => ixSW (Str.ofString "0123456789/.-") r295 (fun v294 => Q (some v294)) E) E) (fun r293 => joinW (Str.ofString "") r293 (fun v292 => N v292) E) (fun _ => False))) E)
 (fun z290 => (M.bd (S := Str) (T := Unit) (R := Bool) (fun (N : Str → Prop) (R : Bool → Prop) (E : Str → Prop) => cutSW z290 none (some (1 : Int)) (fun v300 => W.ite (decide (v300 = (Str.ofString "-"))) (fun Q E => cutSW z290 (some (1 : Int)) none (fun v299 => Q v299) E) (fun Q E => Q z290) (fun v298 => N v298) E) E)
 (fun z297 => (M.bd (S := (List Str)) (T := Unit) (R := Bool) (fun (N : (List Str) → Prop) (R : Bool → Prop) (E : Str → Prop) => (Str.length z297 ≤ sizeLine ∧ W.fm (Wl.signs z297) (fun x302 : Str => fun Q E => ninSW x302 (Str.ofString "0123456789") (fun v305 => W.ite v305 (fun Q E => Q (some x302)) (W.ret none) Q E) E) (fun r303 => N r303) (fun _ => False)))
 (fun z301 => (M.bd (S := (List Str)) (T := Unit) (R := Bool) (fun (N : (List Str) → Prop) (R : Bool → Prop) (E : Str → Prop) => (neXW (okL okS)) z301 ([] : (List Str)) (fun v310 => W.ite v310 (fun Q E => ixW z301 (0 : Int) (fun v309 => splitW z297 v309 (fun v308 => Q v308) E) E) (fun Q E => Q ([z297] : (List Str))) (fun v307 => N v307) E) E)
 (fun z306 => (M.bd (S := Bool) (T := Unit) (R := Bool) (fun (N : Bool → Prop) (R : Bool → Prop) (E : Str → Prop) => W.ite (decide ((List.length z301 : Int) < (2 : Int))) (fun Q E => (neXW (okL okS)) z301 ([(Str.ofString "-")] : (List Str)) (fun v320 => W.ite v320 (fun Q E => (ninXW okS) (Str.ofString "") z306 (fun v319 => W.ite v319 (fun Q E => (eqXW (okL okS)) z301 ([(Str.ofString "/")] : (List Str)) (fun v318 => W.ite v318 (fun Q E => ixW z306 (1 : Int) (fun v316 => intSW v316 (fun v317 => Q (decide (v317 = (0 : Int)))) E) E) (W.ret false) (fun v315 => Q (!v315)) E) E) (W.ret false) (fun v314 => Q v314) E) E) (W.ret false) (fun v313 => Q v313) E) E) (W.ret false) (fun v312 => N v312) E)
 (fun z311 => (M.bd (S := Unit) (T := Unit) (R := Bool) (fun (N : Unit → Prop) (R : Bool → Prop) (E : Str → Prop) => toldW (Str.ofString "NumberError") (fun (Q : (Int × Int) → Prop) (E : Str → Prop) => w_read_part (z290) (fun r323 => Q r323) E) (fun r322 => M.ite (!decide ((!decide (r322 = none)) = z311)) (M.en (fun (N : Empty → Prop) (R : Bool → Prop) (E : Str → Prop) => R false)) (fun (N : Unit → Prop) (R : Bool → Prop) (E : Str → Prop) => N ()) N R E) E)
 (fun s321 => (fun (N : Unit → Prop) (R : Bool → Prop) (E : Str → Prop) => N ()))))))))))))))))))))))))))) N R E)
 (fun _ => (fun (N : Empty → Prop) (R : Bool → Prop) (E : Str → Prop) => w_law_plain () (fun r324 => R r324) E))))) (fun _ => False) Q E
abbrev sg_law : Sg := Sg.mk (A := (List Int)) (R := Bool) (fun a => [.d ((lD iD) a)]) bD w_law
theorem sc_law : FnScope [Str.ofString "script", Str.ofString "tens", Str.ofString "dice", Str.ofString "turn", Str.ofString "one", Str.ofString "other", Str.ofString "a", Str.ofString "b", Str.ofString "c", Str.ofString "d", Str.ofString "top", Str.ofString "bottom", Str.ofString "places", Str.ofString "scale", Str.ofString "near", Str.ofString "square", Str.ofString "root", Str.ofString "text", Str.ofString "rows", Str.ofString "whole", Str.ofString "order", Str.ofString "odd", Str.ofString "body", Str.ofString "marks", Str.ofString "sides", Str.ofString "good", Str.ofString "k", Str.ofString "sign", Str.ofString "two"] [Str.ofString "script"] (defScope s_law) := C8.fnScope_by (by decide +kernel)
theorem ok_law {p : Str × Option Str} {Pt : Addr} {fd : FuncData} (F : DefAt K "law" s_law [] (He.fAd K p) fd) (h_int : mg "int" = none) (h_len : mg "len" = none) (h_max : mg "max" = none) (h_range : mg "range" = none) (h_sorted : mg "sorted" = none) (h_str : mg "str" = none) (h_zip : mg "zip" = none) (c_law_drawn : Cal P w K mg base ca T 2 "_law_drawn" sg_law_drawn []) (c_law_figures : Cal P w K mg base ca T 1 "_law_figures" sg_law_figures []) (c_law_low : Cal P w K mg base ca T 1 "_law_low" sg_law_low []) (c_law_plain : Cal P w K mg base ca T 6 "_law_plain" sg_law_plain []) (c_law_roll : Cal P w K mg base ca T 1 "_law_roll" sg_law_roll []) (c_law_rounds : CalS P w K mg base 2 "_law_rounds" (spRnd K)) (c_divided : Cal P w K mg base ca T 3 "divided" sg_divided []) (c_in_part_order : Cal P w K mg base ca T 2 "in_part_order" sg_in_part_order []) (c_is_below : Cal P w K mg base ca T 1 "is_below" sg_is_below []) (c_less_of : Cal P w K mg base ca T 3 "less_of" sg_less_of []) (c_part_of : Cal P w K mg base ca T 2 "part_of" sg_part_of []) (c_read_part : Cal P w K mg base ca T 3 "read_part" sg_read_part []) (c_root_text : Cal P w K mg base ca T 2 "root_text" sg_root_text []) (c_rounded_text : Cal P w K mg base ca T 1 "rounded_text" sg_rounded_text []) (c_square_root : Cal P w K mg base ca T 1 "square_root" sg_square_root []) (c_sum_of_two : Cal P w K mg base ca T 3 "sum_of_two" sg_sum_of_two []) (c_sum_parts : Cal P w K mg base ca T 4 "sum_parts" sg_sum_parts []) (c_times_of : Cal P w K mg base ca T 3 "times_of" sg_times_of []) (t_law_told : Told K mg ca "_law_told" "NumberError") (TB : LamX.TabB base mg (He.codeOf K p) Pt) (hT : (Pt, FO.tab ((envOfC (Str.ofString "law") (defScope s_law) 0 0 .none).qual ++ "<lambda>")) ∈ T) :
    FnOk P w K mg base (L2.CX P w) 7 (He.fAd K p) fd [Str.ofString "script"] (Sg.sp sg_law K ca T) := by
  refine fn_mkC sg_law (g := fun z : Empty => ([] : List Sl)) (mb := fun a => fun _ R' E => w_law a R' E) F sc_law (fun _ => rfl) (fun a Q E h => h) (fun A outer s H E hr a => ?_)
  exact ss_eqv (ss_cons (s1_eqv (m2 := (fun (N : (List Int) → Prop) (R : Bool → Prop) (E : Str → Prop) => N ([(1 : Int), (10 : Int), (100 : Int), (1000 : Int), (10000 : Int)] : (List Int)))) (st_set 1 (em_lst (fc := (lD iD)) (γ := (List Int)) (am_cons em_int (am_cons em_int (am_cons em_int (am_cons em_int (am_cons em_int am_nil))))) (fun b => [b.1, b.2.1, b.2.2.1, b.2.2.2.1, b.2.2.2.2.1]) (fun b => ⟨[iD b.1, iD b.2.1, iD b.2.2.1, iD b.2.2.2.1, iD b.2.2.2.2.1], rfl, rfl, Nat.le_of_ble_eq_true rfl⟩))) rfl)
 (fun z204 => (ss_cons (s1_eqv (m2 := (fun (N : Unit → Prop) (R : Bool → Prop) (E : Str → Prop) => (M.bd (S := Unit) (T := Unit) (R := Bool) (fun (N : Unit → Prop) (R : Bool → Prop) (E : Str → Prop) => (RgOk 0 (6 : Int) ∧ M.for (S := Unit) (R := Bool) (rgL 0 (6 : Int)) () (fun s206 => fun x207 : Int => (M.bd (S := ((Int × Int) × (Int × Int))) (T := Unit) (R := Bool) (fun (N : ((Int × Int) × (Int × Int)) → Prop) (R : Bool → Prop) (E : Str → Prop) => w_law_drawn () (fun r209 => w_law_drawn () (fun r210 => N (r209, r210)) E) E)
 (fun z208 => (M.bd (S := ((Int × Int) × (Int × Int))) (T := Unit) (R := Bool) (fun (N : ((Int × Int) × (Int × Int)) → Prop) (R : Bool → Prop) (E : Str → Prop) => N (z208.1, z208.2))
 (fun z211 => (M.bd (S := (Int × Int)) (T := Unit) (R := Bool) (fun (N : (Int × Int) → Prop) (R : Bool → Prop) (E : Str → Prop) => w_law_roll ((200 : Int)) (fun r213 => w_law_roll ((41 : Int)) (fun r214 => N ((r213 - (100 : Int)), (r214 - (20 : Int)))) E) E)
 (fun z212 => (M.bd (S := Unit) (T := Unit) (R := Bool) (fun (N : Unit → Prop) (R : Bool → Prop) (E : Str → Prop) => toldW (Str.ofString "NumberError") (fun (Q : (Int × Int) → Prop) (E : Str → Prop) => w_part_of (z212.1, z212.2) (fun r223 => Q r223) E) (fun r222 => W.ite (decide (z212.2 = (0 : Int))) (fun Q E => Q none) (fun Q E => w_law_low (z212.1, z212.2) (fun r225 => Q (some r225)) E) (fun v224 => W.ite (!decide (r222 = v224)) (W.ret true) (fun Q E => w_sum_of_two (z208.1, z208.2) (fun r220 => (MulOk z211.1.1 z211.2.2 ∧ (MulOk z211.2.1 z211.1.2 ∧ (MulOk z211.1.2 z211.2.2 ∧ w_law_low (((z211.1.1 * z211.2.2) + (z211.2.1 * z211.1.2)), (z211.1.2 * z211.2.2)) (fun r221 => W.ite (!decide (r220 = r221)) (W.ret true) (fun Q E => w_less_of (z208.1, z208.2) (fun r218 => (MulOk z211.1.1 z211.2.2 ∧ (MulOk z211.2.1 z211.1.2 ∧ (MulOk z211.1.2 z211.2.2 ∧ w_law_low (((z211.1.1 * z211.2.2) - (z211.2.1 * z211.1.2)), (z211.1.2 * z211.2.2)) (fun r219 => Q (!decide (r218 = r219))) E)))) E) (fun v217 => Q v217) E) E)))) E) (fun v216 => M.ite v216 (M.en (fun (N : Empty → Prop) (R : Bool → Prop) (E : Str → Prop) => R false)) (fun (N : Unit → Prop) (R : Bool → Prop) (E : Str → Prop) => N ()) N R E) E) E) E)
 (fun s215 => (M.bd (S := Unit) (T := Unit) (R := Bool) (fun (N : Unit → Prop) (R : Bool → Prop) (E : Str → Prop) => w_times_of (z208.1, z208.2) (fun r234 => (MulOk z211.1.1 z211.2.1 ∧ (MulOk z211.1.2 z211.2.2 ∧ w_law_low ((z211.1.1 * z211.2.1), (z211.1.2 * z211.2.2)) (fun r235 => W.ite (!decide (r234 = r235)) (W.ret true) (fun Q E => toldW (Str.ofString "NumberError") (fun (Q : (Int × Int) → Prop) (E : Str → Prop) => w_divided (z208.1, z208.2) (fun r231 => Q r231) E) (fun r230 => W.ite (decide (z211.2.1 = (0 : Int))) (fun Q E => Q none) (fun Q E => (MulOk z211.1.1 z211.2.2 ∧ (MulOk z211.1.2 z211.2.1 ∧ w_law_low ((z211.1.1 * z211.2.2), (z211.1.2 * z211.2.1)) (fun r233 => Q (some r233)) E))) (fun v232 => W.ite (!decide (r230 = v232)) (W.ret true) (fun Q E => w_is_below (z208.1, z208.2) (fun r229 => (MulOk z211.1.1 z211.2.2 ∧ (MulOk z211.2.1 z211.1.2 ∧ Q (!decide (r229 = (decide ((z211.1.1 * z211.2.2) < (z211.2.1 * z211.1.2)))))))) E) (fun v228 => Q v228) E) E) E) (fun v227 => M.ite v227 (M.en (fun (N : Empty → Prop) (R : Bool → Prop) (E : Str → Prop) => R false)) (fun (N : Unit → Prop) (R : Bool → Prop) (E : Str → Prop) => N ()) N R E) E) E))) E)
 (fun s226 => (M.bd (S := Int) (T := Unit) (R := Bool) (fun (N : Int → Prop) (R : Bool → Prop) (E : Str → Prop) => w_law_roll ((5 : Int)) (fun r237 => N r237) E)
 (fun z236 => (M.bd (S := Int) (T := Unit) (R := Bool) (fun (N : Int → Prop) (R : Bool → Prop) (E : Str → Prop) => ixW z204 z236 (fun v239 => N v239) E)
 (fun z238 => (M.bd (S := Int) (T := Unit) (R := Bool) (fun (N : Int → Prop) (R : Bool → Prop) (E : Str → Prop) => (MulOk (maxI z211.1.1 (-z211.1.1)) z238 ∧ (DivOk ((maxI z211.1.1 (-z211.1.1)) * z238) z211.1.2 ∧ (MulOk (maxI z211.1.1 (-z211.1.1)) z238 ∧ (DivOk ((maxI z211.1.1 (-z211.1.1)) * z238) z211.1.2 ∧ (RgOk (Int.fdiv ((maxI z211.1.1 (-z211.1.1)) * z238) z211.1.2) ((Int.fdiv ((maxI z211.1.1 (-z211.1.1)) * z238) z211.1.2) + (2 : Int)) ∧ W.fm (rgL (Int.fdiv ((maxI z211.1.1 (-z211.1.1)) * z238) z211.1.2) ((Int.fdiv ((maxI z211.1.1 (-z211.1.1)) * z238) z211.1.2) + (2 : Int))) (fun x241 : Int => fun Q E => (MulOk (2 : Int) x241 ∧ (MulOk (((2 : Int) * x241) - (1 : Int)) z211.1.2 ∧ (MulOk (2 : Int) (maxI z211.1.1 (-z211.1.1)) ∧ (MulOk ((2 : Int) * (maxI z211.1.1 (-z211.1.1))) z238 ∧ W.ite (decide (((((2 : Int) * x241) - (1 : Int)) * z211.1.2) ≤ (((2 : Int) * (maxI z211.1.1 (-z211.1.1))) * z238))) (fun Q E => (MulOk (2 : Int) x241 ∧ (MulOk (((2 : Int) * x241) + (1 : Int)) z211.1.2 ∧ Q (decide ((((2 : Int) * (maxI z211.1.1 (-z211.1.1))) * z238) < ((((2 : Int) * x241) + (1 : Int)) * z211.1.2)))))) (W.ret false) (fun v245 => W.ite v245 (fun Q E => Q (some x241)) (W.ret none) Q E) E))))) (fun r243 => ixW r243 (0 : Int) (fun v242 => N v242) E) (fun _ => False)))))))
 (fun z240 => (M.bd (S := Unit) (T := Unit) (R := Bool) (fun (N : Unit → Prop) (R : Bool → Prop) (E : Str → Prop) => w_rounded_text (z208.1, z236) (fun r247 => W.ite (decide (z211.1.1 < (0 : Int))) (fun Q E => Q (-z240)) (fun Q E => Q z240) (fun v248 => w_law_figures (v248, z236) (fun r249 => M.ite (!decide (r247 = r249)) (M.en (fun (N : Empty → Prop) (R : Bool → Prop) (E : Str → Prop) => R false)) (fun (N : Unit → Prop) (R : Bool → Prop) (E : Str → Prop) => N ()) N R E) E) E) E)
 (fun s246 => (M.bd (S := (Int × Int)) (T := Unit) (R := Bool) (fun (N : (Int × Int) → Prop) (R : Bool → Prop) (E : Str → Prop) => N ((maxI z211.1.1 (-z211.1.1)), z211.1.2))
 (fun z250 => (M.bd (S := Int) (T := Unit) (R := Bool) (fun (N : Int → Prop) (R : Bool → Prop) (E : Str → Prop) => (MulOk z250.1 z238 ∧ (MulOk (z250.1 * z238) z238 ∧ (DivOk ((z250.1 * z238) * z238) z250.2 ∧ w_square_root ((Int.fdiv ((z250.1 * z238) * z238) z250.2)) (fun r252 => N r252) E))))
 (fun z251 => (M.bd (S := Unit) (T := Unit) (R := Bool) (fun (N : Unit → Prop) (R : Bool → Prop) (E : Str → Prop) => (MulOk z251 z251 ∧ (MulOk (z251 * z251) z211.1.2 ∧ (MulOk z250.1 z238 ∧ (MulOk (z250.1 * z238) z238 ∧ W.ite (decide (((z251 * z251) * z211.1.2) ≤ ((z250.1 * z238) * z238))) (fun Q E => (MulOk (z251 + (1 : Int)) (z251 + (1 : Int)) ∧ (MulOk ((z251 + (1 : Int)) * (z251 + (1 : Int))) z211.1.2 ∧ Q (decide (((z250.1 * z238) * z238) < (((z251 + (1 : Int)) * (z251 + (1 : Int))) * z211.1.2)))))) (W.ret false) (fun v254 => M.ite (!v254) (M.en (fun (N : Empty → Prop) (R : Bool → Prop) (E : Str → Prop) => R false)) (fun (N : Unit → Prop) (R : Bool → Prop) (E : Str → Prop) => N ()) N R E) E)))))
 (fun s253 => (M.bd (S := Unit) (T := Unit) (R := Bool) (fun (N : Unit → Prop) (R : Bool → Prop) (E : Str → Prop) => w_root_text (z250, z236) (fun r256 => w_law_figures (z251, z236) (fun r257 => M.ite (!decide (r256 = r257)) (M.en (fun (N : Empty → Prop) (R : Bool → Prop) (E : Str → Prop) => R false)) (fun (N : Unit → Prop) (R : Bool → Prop) (E : Str → Prop) => N ()) N R E) E) E)
 (fun s255 => (M.bd (S := Str) (T := Unit) (R := Bool) (fun (N : Str → Prop) (R : Bool → Prop) (E : Str → Prop) => (MulOk z212.1 (7 : Int) ∧ w_law_figures ((z212.1 * (7 : Int)), z236) (fun r259 => N r259) E))
 (fun z258 => (M.bd (S := Unit) (T := Unit) (R := Bool) (fun (N : Unit → Prop) (R : Bool → Prop) (E : Str → Prop) => w_read_part (z258) (fun r267 => (MulOk z212.1 (7 : Int) ∧ w_law_low ((z212.1 * (7 : Int)), z238) (fun r268 => W.ite (!decide (r267 = r268)) (W.ret true) (fun Q E => strW z211.1.1 (fun v264 => addSW v264 (Str.ofString "/") (fun v263 => strW z211.1.2 (fun v265 => addSW v263 v265 (fun v262 => w_read_part (v262) (fun r266 => Q (!decide (r266 = z208.1))) E) E) E) E) E) (fun v261 => M.ite v261 (M.en (fun (N : Empty → Prop) (R : Bool → Prop) (E : Str → Prop) => R false)) (fun (N : Unit → Prop) (R : Bool → Prop) (E : Str → Prop) => N ()) N R E) E) E)) E)
 (fun s260 => (fun (N : Unit → Prop) (R : Bool → Prop) (E : Str → Prop) => N ())))))))))))))))))))))))))))))))) N R E))
 (fun s206 => (M.bd (S := (List (Int × Int))) (T := Unit) (R := Bool) (fun (N : (List (Int × Int)) → Prop) (R : Bool → Prop) (E : Str → Prop) => w_law_roll ((8 : Int)) (fun r273 => (RgOk 0 r273 ∧ W.fm (rgL 0 r273) (fun x270 : Int => fun Q E => w_law_drawn () (fun r272 => Q (some r272)) E) (fun r271 => N r271) (fun _ => False))) E)
 (fun z269 => (M.bd (S := (Int × Int)) (T := Unit) (R := Bool) (fun (N : (Int × Int) → Prop) (R : Bool → Prop) (E : Str → Prop) => N ((0 : Int), (1 : Int)))
 (fun z274 => (M.bd (S := ((Int × Int))) (T := Unit) (R := Bool) (fun (N : ((Int × Int)) → Prop) (R : Bool → Prop) (E : Str → Prop) => M.for (S := ((Int × Int))) (R := Bool) z269 (z274) (fun s275 => fun x276 : (Int × Int) => (M.bd (S := (Int × Int)) (T := ((Int × Int))) (R := Bool) (fun (N : (Int × Int) → Prop) (R : Bool → Prop) (E : Str → Prop) => (MulOk s275.1 x276.2 ∧ (MulOk x276.1 s275.2 ∧ (MulOk s275.2 x276.2 ∧ w_law_low (((s275.1 * x276.2) + (x276.1 * s275.2)), (s275.2 * x276.2)) (fun r278 => N r278) E))))
 (fun z277 => (fun (N : ((Int × Int)) → Prop) (R : Bool → Prop) (E : Str → Prop) => N (z277))))) N R E)
 (fun s275 => (M.bd (S := (List (Int × Int))) (T := Unit) (R := Bool) (fun (N : (List (Int × Int)) → Prop) (R : Bool → Prop) (E : Str → Prop) => w_in_part_order (z269) (fun r280 => N r280) E)
 (fun z279 => (M.bd (S := Unit) (T := Unit) (R := Bool) (fun (N : Unit → Prop) (R : Bool → Prop) (E : Str → Prop) => w_sum_parts (z269) (fun r285 => W.ite (!decide (r285 = s275)) (W.ret true) (fun Q E => sortPW z279 (fun v283 => sortPW z269 (fun v284 => Q (!decide (v283 = v284))) E) E) (fun v282 => M.ite v282 (M.en (fun (N : Empty → Prop) (R : Bool → Prop) (E : Str → Prop) => R false)) (fun (N : Unit → Prop) (R : Bool → Prop) (E : Str → Prop) => N ()) N R E) E) E)
 (fun s281 => (M.bd (S := Unit) (T := Unit) (R := Bool) (fun (N : Unit → Prop) (R : Bool → Prop) (E : Str → Prop) => W.fm (List.zip z279 (cutL z279 (some (1 : Int)) none)) (fun x286 : ((Int × Int) × (Int × Int)) => fun Q E => (MulOk x286.1.1 x286.2.2 ∧ (MulOk x286.2.1 x286.1.2 ∧ W.ite (decide ((x286.2.1 * x286.1.2) < (x286.1.1 * x286.2.2))) (fun Q E => Q (some (1 : Int))) (W.ret none) Q E))) (fun r288 => M.ite (!decide (r288 = ([] : (List Int)))) (M.en (fun (N : Empty → Prop) (R : Bool → Prop) (E : Str → Prop) => R false)) (fun (N : Unit → Prop) (R : Bool → Prop) (E : Str → Prop) => N ()) N R E) (fun _ => False))
 (fun s287 => (M.bd (S := Str) (T := Unit) (R := Bool) (fun (N : Str → Prop) (R : Bool → Prop) (E : Str → Prop) => w_law_roll ((6 : Int)) (fun r296 => (RgOk 0 r296 ∧ W.fm (rgL 0 r296) (fun x291 : Int => fun Q E => w_law_roll ((13 : Int)) (fun r295 => ixSW (Str.ofString "0123456789/.-") r295 (fun v294 => Q (some v294)) E) E) (fun r293 => joinW (Str.ofString "") r293 (fun v292 => N v292) E) (fun _ => False))) E)
 (fun z290 => (M.bd (S := Str) (T := Unit) (R := Bool) (fun (N : Str → Prop) (R : Bool → Prop) (E : Str → Prop) => cutSW z290 none (some (1 : Int)) (fun v300 => W.ite (decide (v300 = (Str.ofString "-"))) (fun Q E => cutSW z290 (some (1 : Int)) none (fun v299 => Q v299) E) (fun Q E => Q z290) (fun v298 => N v298) E) E)
 (fun z297 => (M.bd (S := (List Str)) (T := Unit) (R := Bool) (fun (N : (List Str) → Prop) (R : Bool → Prop) (E : Str → Prop) => (Str.length z297 ≤ sizeLine ∧ W.fm (Wl.signs z297) (fun x302 : Str => fun Q E => ninSW x302 (Str.ofString "0123456789") (fun v305 => W.ite v305 (fun Q E => Q (some x302)) (W.ret none) Q E) E) (fun r303 => N r303) (fun _ => False)))
 (fun z301 => (M.bd (S := (List Str)) (T := Unit) (R := Bool) (fun (N : (List Str) → Prop) (R : Bool → Prop) (E : Str → Prop) => (neXW (okL okS)) z301 ([] : (List Str)) (fun v310 => W.ite v310 (fun Q E => ixW z301 (0 : Int) (fun v309 => splitW z297 v309 (fun v308 => Q v308) E) E) (fun Q E => Q ([z297] : (List Str))) (fun v307 => N v307) E) E)
 (fun z306 => (M.bd (S := Bool) (T := Unit) (R := Bool) (fun (N : Bool → Prop) (R : Bool → Prop) (E : Str → Prop) => W.ite (decide ((List.length z301 : Int) < (2 : Int))) (fun Q E => (neXW (okL okS)) z301 ([(Str.ofString "-")] : (List Str)) (fun v320 => W.ite v320 (fun Q E => (ninXW okS) (Str.ofString "") z306 (fun v319 => W.ite v319 (fun Q E => (eqXW (okL okS)) z301 ([(Str.ofString "/")] : (List Str)) (fun v318 => W.ite v318 (fun Q E => ixW z306 (1 : Int) (fun v316 => intSW v316 (fun v317 => Q (decide (v317 = (0 : Int)))) E) E) (W.ret false) (fun v315 => Q (!v315)) E) E) (W.ret false) (fun v314 => Q v314) E) E) (W.ret false) (fun v313 => Q v313) E) E) (W.ret false) (fun v312 => N v312) E)
 (fun z311 => (M.bd (S := Unit) (T := Unit) (R := Bool) (fun (N : Unit → Prop) (R : Bool → Prop) (E : Str → Prop) => toldW (Str.ofString "NumberError") (fun (Q : (Int × Int) → Prop) (E : Str → Prop) => w_read_part (z290) (fun r323 => Q r323) E) (fun r322 => M.ite (!decide ((!decide (r322 = none)) = z311)) (M.en (fun (N : Empty → Prop) (R : Bool → Prop) (E : Str → Prop) => R false)) (fun (N : Unit → Prop) (R : Bool → Prop) (E : Str → Prop) => N ()) N R E) E)
 (fun s321 => (fun (N : Unit → Prop) (R : Bool → Prop) (E : Str → Prop) => N ()))))))))))))))))))))))))))) N R E)) (st_rounds (g := (fun _ : Unit => [.d ((lD iD) a), .d ((lD iD) z204), .un, .un, .un, .un, .un, .un, .un, .un, .un, .un, .un, .un, .un, .un, .un, .un, .un, .un, .un, .un, .un, .un, .un, .un, .un, .un, .un])) 0 2 c_law_rounds (ns := a) (h0 := rfl) (hb := (ss_cons (s1_eqv (m2 := (fun (N : Unit → Prop) (R : Bool → Prop) (E : Str → Prop) => (RgOk 0 (6 : Int) ∧ M.for (S := Unit) (R := Bool) (rgL 0 (6 : Int)) () (fun s206 => fun x207 : Int => (M.bd (S := ((Int × Int) × (Int × Int))) (T := Unit) (R := Bool) (fun (N : ((Int × Int) × (Int × Int)) → Prop) (R : Bool → Prop) (E : Str → Prop) => w_law_drawn () (fun r209 => w_law_drawn () (fun r210 => N (r209, r210)) E) E)
 (fun z208 => (M.bd (S := ((Int × Int) × (Int × Int))) (T := Unit) (R := Bool) (fun (N : ((Int × Int) × (Int × Int)) → Prop) (R : Bool → Prop) (E : Str → Prop) => N (z208.1, z208.2))
 (fun z211 => (M.bd (S := (Int × Int)) (T := Unit) (R := Bool) (fun (N : (Int × Int) → Prop) (R : Bool → Prop) (E : Str → Prop) => w_law_roll ((200 : Int)) (fun r213 => w_law_roll ((41 : Int)) (fun r214 => N ((r213 - (100 : Int)), (r214 - (20 : Int)))) E) E)
 (fun z212 => (M.bd (S := Unit) (T := Unit) (R := Bool) (fun (N : Unit → Prop) (R : Bool → Prop) (E : Str → Prop) => toldW (Str.ofString "NumberError") (fun (Q : (Int × Int) → Prop) (E : Str → Prop) => w_part_of (z212.1, z212.2) (fun r223 => Q r223) E) (fun r222 => W.ite (decide (z212.2 = (0 : Int))) (fun Q E => Q none) (fun Q E => w_law_low (z212.1, z212.2) (fun r225 => Q (some r225)) E) (fun v224 => W.ite (!decide (r222 = v224)) (W.ret true) (fun Q E => w_sum_of_two (z208.1, z208.2) (fun r220 => (MulOk z211.1.1 z211.2.2 ∧ (MulOk z211.2.1 z211.1.2 ∧ (MulOk z211.1.2 z211.2.2 ∧ w_law_low (((z211.1.1 * z211.2.2) + (z211.2.1 * z211.1.2)), (z211.1.2 * z211.2.2)) (fun r221 => W.ite (!decide (r220 = r221)) (W.ret true) (fun Q E => w_less_of (z208.1, z208.2) (fun r218 => (MulOk z211.1.1 z211.2.2 ∧ (MulOk z211.2.1 z211.1.2 ∧ (MulOk z211.1.2 z211.2.2 ∧ w_law_low (((z211.1.1 * z211.2.2) - (z211.2.1 * z211.1.2)), (z211.1.2 * z211.2.2)) (fun r219 => Q (!decide (r218 = r219))) E)))) E) (fun v217 => Q v217) E) E)))) E) (fun v216 => M.ite v216 (M.en (fun (N : Empty → Prop) (R : Bool → Prop) (E : Str → Prop) => R false)) (fun (N : Unit → Prop) (R : Bool → Prop) (E : Str → Prop) => N ()) N R E) E) E) E)
 (fun s215 => (M.bd (S := Unit) (T := Unit) (R := Bool) (fun (N : Unit → Prop) (R : Bool → Prop) (E : Str → Prop) => w_times_of (z208.1, z208.2) (fun r234 => (MulOk z211.1.1 z211.2.1 ∧ (MulOk z211.1.2 z211.2.2 ∧ w_law_low ((z211.1.1 * z211.2.1), (z211.1.2 * z211.2.2)) (fun r235 => W.ite (!decide (r234 = r235)) (W.ret true) (fun Q E => toldW (Str.ofString "NumberError") (fun (Q : (Int × Int) → Prop) (E : Str → Prop) => w_divided (z208.1, z208.2) (fun r231 => Q r231) E) (fun r230 => W.ite (decide (z211.2.1 = (0 : Int))) (fun Q E => Q none) (fun Q E => (MulOk z211.1.1 z211.2.2 ∧ (MulOk z211.1.2 z211.2.1 ∧ w_law_low ((z211.1.1 * z211.2.2), (z211.1.2 * z211.2.1)) (fun r233 => Q (some r233)) E))) (fun v232 => W.ite (!decide (r230 = v232)) (W.ret true) (fun Q E => w_is_below (z208.1, z208.2) (fun r229 => (MulOk z211.1.1 z211.2.2 ∧ (MulOk z211.2.1 z211.1.2 ∧ Q (!decide (r229 = (decide ((z211.1.1 * z211.2.2) < (z211.2.1 * z211.1.2)))))))) E) (fun v228 => Q v228) E) E) E) (fun v227 => M.ite v227 (M.en (fun (N : Empty → Prop) (R : Bool → Prop) (E : Str → Prop) => R false)) (fun (N : Unit → Prop) (R : Bool → Prop) (E : Str → Prop) => N ()) N R E) E) E))) E)
 (fun s226 => (M.bd (S := Int) (T := Unit) (R := Bool) (fun (N : Int → Prop) (R : Bool → Prop) (E : Str → Prop) => w_law_roll ((5 : Int)) (fun r237 => N r237) E)
 (fun z236 => (M.bd (S := Int) (T := Unit) (R := Bool) (fun (N : Int → Prop) (R : Bool → Prop) (E : Str → Prop) => ixW z204 z236 (fun v239 => N v239) E)
 (fun z238 => (M.bd (S := Int) (T := Unit) (R := Bool) (fun (N : Int → Prop) (R : Bool → Prop) (E : Str → Prop) => (MulOk (maxI z211.1.1 (-z211.1.1)) z238 ∧ (DivOk ((maxI z211.1.1 (-z211.1.1)) * z238) z211.1.2 ∧ (MulOk (maxI z211.1.1 (-z211.1.1)) z238 ∧ (DivOk ((maxI z211.1.1 (-z211.1.1)) * z238) z211.1.2 ∧ (RgOk (Int.fdiv ((maxI z211.1.1 (-z211.1.1)) * z238) z211.1.2) ((Int.fdiv ((maxI z211.1.1 (-z211.1.1)) * z238) z211.1.2) + (2 : Int)) ∧ W.fm (rgL (Int.fdiv ((maxI z211.1.1 (-z211.1.1)) * z238) z211.1.2) ((Int.fdiv ((maxI z211.1.1 (-z211.1.1)) * z238) z211.1.2) + (2 : Int))) (fun x241 : Int => fun Q E => (MulOk (2 : Int) x241 ∧ (MulOk (((2 : Int) * x241) - (1 : Int)) z211.1.2 ∧ (MulOk (2 : Int) (maxI z211.1.1 (-z211.1.1)) ∧ (MulOk ((2 : Int) * (maxI z211.1.1 (-z211.1.1))) z238 ∧ W.ite (decide (((((2 : Int) * x241) - (1 : Int)) * z211.1.2) ≤ (((2 : Int) * (maxI z211.1.1 (-z211.1.1))) * z238))) (fun Q E => (MulOk (2 : Int) x241 ∧ (MulOk (((2 : Int) * x241) + (1 : Int)) z211.1.2 ∧ Q (decide ((((2 : Int) * (maxI z211.1.1 (-z211.1.1))) * z238) < ((((2 : Int) * x241) + (1 : Int)) * z211.1.2)))))) (W.ret false) (fun v245 => W.ite v245 (fun Q E => Q (some x241)) (W.ret none) Q E) E))))) (fun r243 => ixW r243 (0 : Int) (fun v242 => N v242) E) (fun _ => False)))))))
 (fun z240 => (M.bd (S := Unit) (T := Unit) (R := Bool) (fun (N : Unit → Prop) (R : Bool → Prop) (E : Str → Prop) => w_rounded_text (z208.1, z236) (fun r247 => W.ite (decide (z211.1.1 < (0 : Int))) (fun Q E => Q (-z240)) (fun Q E => Q z240) (fun v248 => w_law_figures (v248, z236) (fun r249 => M.ite (!decide (r247 = r249)) (M.en (fun (N : Empty → Prop) (R : Bool → Prop) (E : Str → Prop) => R false)) (fun (N : Unit → Prop) (R : Bool → Prop) (E : Str → Prop) => N ()) N R E) E) E) E)
 (fun s246 => (M.bd (S := (Int × Int)) (T := Unit) (R := Bool) (fun (N : (Int × Int) → Prop) (R : Bool → Prop) (E : Str → Prop) => N ((maxI z211.1.1 (-z211.1.1)), z211.1.2))
 (fun z250 => (M.bd (S := Int) (T := Unit) (R := Bool) (fun (N : Int → Prop) (R : Bool → Prop) (E : Str → Prop) => (MulOk z250.1 z238 ∧ (MulOk (z250.1 * z238) z238 ∧ (DivOk ((z250.1 * z238) * z238) z250.2 ∧ w_square_root ((Int.fdiv ((z250.1 * z238) * z238) z250.2)) (fun r252 => N r252) E))))
 (fun z251 => (M.bd (S := Unit) (T := Unit) (R := Bool) (fun (N : Unit → Prop) (R : Bool → Prop) (E : Str → Prop) => (MulOk z251 z251 ∧ (MulOk (z251 * z251) z211.1.2 ∧ (MulOk z250.1 z238 ∧ (MulOk (z250.1 * z238) z238 ∧ W.ite (decide (((z251 * z251) * z211.1.2) ≤ ((z250.1 * z238) * z238))) (fun Q E => (MulOk (z251 + (1 : Int)) (z251 + (1 : Int)) ∧ (MulOk ((z251 + (1 : Int)) * (z251 + (1 : Int))) z211.1.2 ∧ Q (decide (((z250.1 * z238) * z238) < (((z251 + (1 : Int)) * (z251 + (1 : Int))) * z211.1.2)))))) (W.ret false) (fun v254 => M.ite (!v254) (M.en (fun (N : Empty → Prop) (R : Bool → Prop) (E : Str → Prop) => R false)) (fun (N : Unit → Prop) (R : Bool → Prop) (E : Str → Prop) => N ()) N R E) E)))))
 (fun s253 => (M.bd (S := Unit) (T := Unit) (R := Bool) (fun (N : Unit → Prop) (R : Bool → Prop) (E : Str → Prop) => w_root_text (z250, z236) (fun r256 => w_law_figures (z251, z236) (fun r257 => M.ite (!decide (r256 = r257)) (M.en (fun (N : Empty → Prop) (R : Bool → Prop) (E : Str → Prop) => R false)) (fun (N : Unit → Prop) (R : Bool → Prop) (E : Str → Prop) => N ()) N R E) E) E)
 (fun s255 => (M.bd (S := Str) (T := Unit) (R := Bool) (fun (N : Str → Prop) (R : Bool → Prop) (E : Str → Prop) => (MulOk z212.1 (7 : Int) ∧ w_law_figures ((z212.1 * (7 : Int)), z236) (fun r259 => N r259) E))
 (fun z258 => (M.bd (S := Unit) (T := Unit) (R := Bool) (fun (N : Unit → Prop) (R : Bool → Prop) (E : Str → Prop) => w_read_part (z258) (fun r267 => (MulOk z212.1 (7 : Int) ∧ w_law_low ((z212.1 * (7 : Int)), z238) (fun r268 => W.ite (!decide (r267 = r268)) (W.ret true) (fun Q E => strW z211.1.1 (fun v264 => addSW v264 (Str.ofString "/") (fun v263 => strW z211.1.2 (fun v265 => addSW v263 v265 (fun v262 => w_read_part (v262) (fun r266 => Q (!decide (r266 = z208.1))) E) E) E) E) E) (fun v261 => M.ite v261 (M.en (fun (N : Empty → Prop) (R : Bool → Prop) (E : Str → Prop) => R false)) (fun (N : Unit → Prop) (R : Bool → Prop) (E : Str → Prop) => N ()) N R E) E) E)) E)
 (fun s260 => (fun (N : Unit → Prop) (R : Bool → Prop) (E : Str → Prop) => N ())))))))))))))))))))))))))))))))) N R E))) (st_for (f := iD) (S := Unit) (g := (fun s206 : Unit => [.d ((lD iD) a), .d ((lD iD) z204), .dice, .un, .un, .un, .un, .un, .un, .un, .un, .un, .un, .un, .un, .un, .un, .un, .un, .un, .un, .un, .un, .un, .un, .un, .un, .un, .un])) () (im_range1 (hm := h_range) (h := em_int)) (.same (.same (.same (.same (.same (.same (.same (.same (.same (.same (.same (.same (.same (.same (.same (.same (.same (.same (.same (.same (.same (.same (.same (.same (.same (.same (.same (.same (.same .nil))))))))))))))))))))))))))))) (fun x207 => (gm_name 3 (hf := by first | exact .inl rfl | exact .inr rfl))) (fun s206 x207 => (ss_cons (s1_eqv (m2 := (fun (N : ((Int × Int) × (Int × Int)) → Prop) (R : Bool → Prop) (E : Str → Prop) => w_law_drawn () (fun r209 => w_law_drawn () (fun r210 => N (r209, r210)) E) E)) (st_tgt (em_tup (fc := (t2 (t2 iD iD) (t2 iD iD))) (am_cons (em_call (S := sg_law_drawn) c_law_drawn (ha := (am_dice 2 (h := rfl) (hr := am_nil))) (g := fun b => ()) (hf := fun _ => rfl)) (am_cons (em_call (S := sg_law_drawn) c_law_drawn (ha := (am_dice 2 (h := rfl) (hr := am_nil))) (g := fun b => ()) (hf := fun _ => rfl)) am_nil)) (fun b => (b.1, b.2.1)) (fun b => ⟨[(t2 iD iD) b.1, (t2 iD iD) b.2.1], rfl, rfl, Nat.le_of_ble_eq_true rfl⟩)) (fun z208 => (gm_tup (gms_cons (gm_name 4 (hf := by first | exact .inl rfl | exact .inr rfl)) (gms_cons (gm_name 5 (hf := by first | exact .inl rfl | exact .inr rfl)) gms_nil))))) rfl)
 (fun z208 => (ss_cons (s1_eqv (m2 := (fun (N : ((Int × Int) × (Int × Int)) → Prop) (R : Bool → Prop) (E : Str → Prop) => N (z208.1, z208.2))) (st_tgt (em_tup (fc := (t2 (t2 iD iD) (t2 iD iD))) (am_cons (em_var 4 (t2 iD iD) z208.1) (am_cons (em_var 5 (t2 iD iD) z208.2) am_nil)) (fun b => (b.1, b.2.1)) (fun b => ⟨[(t2 iD iD) b.1, (t2 iD iD) b.2.1], rfl, rfl, Nat.le_of_ble_eq_true rfl⟩)) (fun z211 => (gm_tup (gms_cons (gm_tup (gms_cons (gm_name 6 (hf := by first | exact .inl rfl | exact .inr rfl)) (gms_cons (gm_name 7 (hf := by first | exact .inl rfl | exact .inr rfl)) gms_nil))) (gms_cons (gm_tup (gms_cons (gm_name 8 (hf := by first | exact .inl rfl | exact .inr rfl)) (gms_cons (gm_name 9 (hf := by first | exact .inl rfl | exact .inr rfl)) gms_nil))) gms_nil))))) rfl)
 (fun z211 => (ss_cons (s1_eqv (m2 := (fun (N : (Int × Int) → Prop) (R : Bool → Prop) (E : Str → Prop) => w_law_roll ((200 : Int)) (fun r213 => w_law_roll ((41 : Int)) (fun r214 => N ((r213 - (100 : Int)), (r214 - (20 : Int)))) E) E)) (st_tgt (em_tup (fc := (t2 iD iD)) (am_cons (em_bin op_sub o_II (em_call (S := sg_law_roll) c_law_roll (ha := (am_dice 2 (h := rfl) (hr := (am_cons em_int am_nil)))) (g := fun b => (b.1)) (hf := fun _ => rfl)) em_int) (am_cons (em_bin op_sub o_II (em_call (S := sg_law_roll) c_law_roll (ha := (am_dice 2 (h := rfl) (hr := (am_cons em_int am_nil)))) (g := fun b => (b.1)) (hf := fun _ => rfl)) em_int) am_nil)) (fun b => (b.1, b.2.1)) (fun b => ⟨[iD b.1, iD b.2.1], rfl, rfl, Nat.le_of_ble_eq_true rfl⟩)) (fun z212 => (gm_tup (gms_cons (gm_name 10 (hf := by first | exact .inl rfl | exact .inr rfl)) (gms_cons (gm_name 11 (hf := by first | exact .inl rfl | exact .inr rfl)) gms_nil))))) rfl)
 (fun z212 => (ss_cons (s1_eqv (m2 := (fun (N : Unit → Prop) (R : Bool → Prop) (E : Str → Prop) => toldW (Str.ofString "NumberError") (fun (Q : (Int × Int) → Prop) (E : Str → Prop) => w_part_of (z212.1, z212.2) (fun r223 => Q r223) E) (fun r222 => W.ite (decide (z212.2 = (0 : Int))) (fun Q E => Q none) (fun Q E => w_law_low (z212.1, z212.2) (fun r225 => Q (some r225)) E) (fun v224 => W.ite (!decide (r222 = v224)) (W.ret true) (fun Q E => w_sum_of_two (z208.1, z208.2) (fun r220 => (MulOk z211.1.1 z211.2.2 ∧ (MulOk z211.2.1 z211.1.2 ∧ (MulOk z211.1.2 z211.2.2 ∧ w_law_low (((z211.1.1 * z211.2.2) + (z211.2.1 * z211.1.2)), (z211.1.2 * z211.2.2)) (fun r221 => W.ite (!decide (r220 = r221)) (W.ret true) (fun Q E => w_less_of (z208.1, z208.2) (fun r218 => (MulOk z211.1.1 z211.2.2 ∧ (MulOk z211.2.1 z211.1.2 ∧ (MulOk z211.1.2 z211.2.2 ∧ w_law_low (((z211.1.1 * z211.2.2) - (z211.2.1 * z211.1.2)), (z211.1.2 * z211.2.2)) (fun r219 => Q (!decide (r218 = r219))) E)))) E) (fun v217 => Q v217) E) E)))) E) (fun v216 => M.ite v216 (M.en (fun (N : Empty → Prop) (R : Bool → Prop) (E : Str → Prop) => R false)) (fun (N : Unit → Prop) (R : Bool → Prop) (E : Str → Prop) => N ()) N R E) E) E) E)) (st_if (g := (fun s215 : Unit => [.d ((lD iD) a), .d ((lD iD) z204), .dice, .d (iD x207), .d ((t2 iD iD) z208.1), .d ((t2 iD iD) z208.2), .d (iD z211.1.1), .d (iD z211.1.2), .d (iD z211.2.1), .d (iD z211.2.2), .d (iD z212.1), .d (iD z212.2), .un, .un, .un, .un, .un, .un, .un, .un, .un, .un, .un, .un, .un, .un, .un, .un, .un])) (tm_bool (xm_or (tm_cmp (op_neD (hu_ct _)) (o_ne (eqf_e "NumberError" (by decide +kernel) (eqf_t2 eqf_int eqf_int) (fun _ => rfl) (fun _ => rfl))) (em_told (k := 3) (f := (t2 iD iD)) (T := t_law_told) (hk := Nat.le_of_ble_eq_true rfl) (hg := rfl) (hT := hT) (TB := TB) (hcode := rfl) (L := LamX.lamS_by (by rfl)) (hdef := rfl) (hbind := fun _ _ _ => rfl) (hbody := fun fa ca' A outer s H E hr => (em_call (S := sg_part_of) c_part_of (ha := (am_cons (em_var 10 iD z212.1) (am_cons (em_var 11 iD z212.2) am_nil))) (g := fun b => (b.1, b.2.1)) (hf := fun _ => rfl)))) (em_if (tm_cmp (op_eqD (hu_ct _)) (o_eq eqf_int) (em_var 11 iD z212.2) em_int) (em_strE (f := (t2 iD iD))) (em_as (em_call (S := sg_law_low) c_law_low (ha := (am_cons (em_var 10 iD z212.1) (am_cons (em_var 11 iD z212.2) am_nil))) (g := fun b => (b.1, b.2.1)) (hf := fun _ => rfl)) (fc := (eD "NumberError" (t2 iD iD))) (fun x => some x) (fun _ => rfl)))) (xm_or (tm_cmp (op_neD (hu_ct _)) (o_ne (eqf_t2 eqf_int eqf_int)) (em_call (S := sg_sum_of_two) c_sum_of_two (ha := (am_cons (em_var 4 (t2 iD iD) z208.1) (am_cons (em_var 5 (t2 iD iD) z208.2) am_nil))) (g := fun b => (b.1, b.2.1)) (hf := fun _ => rfl)) (em_call (S := sg_law_low) c_law_low (ha := (am_cons (em_bin op_add o_II (em_bin op_mulX o_IIC (em_var 6 iD z211.1.1) (em_var 9 iD z211.2.2)) (em_bin op_mulX o_IIC (em_var 8 iD z211.2.1) (em_var 7 iD z211.1.2))) (am_cons (em_bin op_mulX o_IIC (em_var 7 iD z211.1.2) (em_var 9 iD z211.2.2)) am_nil))) (g := fun b => (b.1, b.2.1)) (hf := fun _ => rfl))) (xm_or1 (tm_cmp (op_neD (hu_ct _)) (o_ne (eqf_t2 eqf_int eqf_int)) (em_call (S := sg_less_of) c_less_of (ha := (am_cons (em_var 4 (t2 iD iD) z208.1) (am_cons (em_var 5 (t2 iD iD) z208.2) am_nil))) (g := fun b => (b.1, b.2.1)) (hf := fun _ => rfl)) (em_call (S := sg_law_low) c_law_low (ha := (am_cons (em_bin op_sub o_II (em_bin op_mulX o_IIC (em_var 6 iD z211.1.1) (em_var 9 iD z211.2.2)) (em_bin op_mulX o_IIC (em_var 8 iD z211.2.1) (em_var 7 iD z211.1.2))) (am_cons (em_bin op_mulX o_IIC (em_var 7 iD z211.1.2) (em_var 9 iD z211.2.2)) am_nil))) (g := fun b => (b.1, b.2.1)) (hf := fun _ => rfl))))))) (ss_end (ss_eqv (m2 := (fun (N : Empty → Prop) (R : Bool → Prop) (E : Str → Prop) => R false)) (ss_one (st_ret em_bl)) rfl)) (ss_done (T := Unit) () (.same (.same (.same (.same (.same (.same (.same (.same (.same (.same (.same (.same (.same (.same (.same (.same (.same (.same (.same (.same (.same (.same (.same (.same (.same (.same (.same (.same (.same .nil))))))))))))))))))))))))))))))) rfl)
 (fun s215 => (ss_cons (s1_eqv (m2 := (fun (N : Unit → Prop) (R : Bool → Prop) (E : Str → Prop) => w_times_of (z208.1, z208.2) (fun r234 => (MulOk z211.1.1 z211.2.1 ∧ (MulOk z211.1.2 z211.2.2 ∧ w_law_low ((z211.1.1 * z211.2.1), (z211.1.2 * z211.2.2)) (fun r235 => W.ite (!decide (r234 = r235)) (W.ret true) (fun Q E => toldW (Str.ofString "NumberError") (fun (Q : (Int × Int) → Prop) (E : Str → Prop) => w_divided (z208.1, z208.2) (fun r231 => Q r231) E) (fun r230 => W.ite (decide (z211.2.1 = (0 : Int))) (fun Q E => Q none) (fun Q E => (MulOk z211.1.1 z211.2.2 ∧ (MulOk z211.1.2 z211.2.1 ∧ w_law_low ((z211.1.1 * z211.2.2), (z211.1.2 * z211.2.1)) (fun r233 => Q (some r233)) E))) (fun v232 => W.ite (!decide (r230 = v232)) (W.ret true) (fun Q E => w_is_below (z208.1, z208.2) (fun r229 => (MulOk z211.1.1 z211.2.2 ∧ (MulOk z211.2.1 z211.1.2 ∧ Q (!decide (r229 = (decide ((z211.1.1 * z211.2.2) < (z211.2.1 * z211.1.2)))))))) E) (fun v228 => Q v228) E) E) E) (fun v227 => M.ite v227 (M.en (fun (N : Empty → Prop) (R : Bool → Prop) (E : Str → Prop) => R false)) (fun (N : Unit → Prop) (R : Bool → Prop) (E : Str → Prop) => N ()) N R E) E) E))) E)) (st_if (g := (fun s226 : Unit => [.d ((lD iD) a), .d ((lD iD) z204), .dice, .d (iD x207), .d ((t2 iD iD) z208.1), .d ((t2 iD iD) z208.2), .d (iD z211.1.1), .d (iD z211.1.2), .d (iD z211.2.1), .d (iD z211.2.2), .d (iD z212.1), .d (iD z212.2), .un, .un, .un, .un, .un, .un, .un, .un, .un, .un, .un, .un, .un, .un, .un, .un, .un])) (tm_bool (xm_or (tm_cmp (op_neD (hu_ct _)) (o_ne (eqf_t2 eqf_int eqf_int)) (em_call (S := sg_times_of) c_times_of (ha := (am_cons (em_var 4 (t2 iD iD) z208.1) (am_cons (em_var 5 (t2 iD iD) z208.2) am_nil))) (g := fun b => (b.1, b.2.1)) (hf := fun _ => rfl)) (em_call (S := sg_law_low) c_law_low (ha := (am_cons (em_bin op_mulX o_IIC (em_var 6 iD z211.1.1) (em_var 8 iD z211.2.1)) (am_cons (em_bin op_mulX o_IIC (em_var 7 iD z211.1.2) (em_var 9 iD z211.2.2)) am_nil))) (g := fun b => (b.1, b.2.1)) (hf := fun _ => rfl))) (xm_or (tm_cmp (op_neD (hu_ct _)) (o_ne (eqf_e "NumberError" (by decide +kernel) (eqf_t2 eqf_int eqf_int) (fun _ => rfl) (fun _ => rfl))) (em_told (k := 3) (f := (t2 iD iD)) (T := t_law_told) (hk := Nat.le_of_ble_eq_true rfl) (hg := rfl) (hT := hT) (TB := TB) (hcode := rfl) (L := LamX.lamS_by (by rfl)) (hdef := rfl) (hbind := fun _ _ _ => rfl) (hbody := fun fa ca' A outer s H E hr => (em_call (S := sg_divided) c_divided (ha := (am_cons (em_var 4 (t2 iD iD) z208.1) (am_cons (em_var 5 (t2 iD iD) z208.2) am_nil))) (g := fun b => (b.1, b.2.1)) (hf := fun _ => rfl)))) (em_if (tm_cmp (op_eqD (hu_ct _)) (o_eq eqf_int) (em_var 8 iD z211.2.1) em_int) (em_strE (f := (t2 iD iD))) (em_as (em_call (S := sg_law_low) c_law_low (ha := (am_cons (em_bin op_mulX o_IIC (em_var 6 iD z211.1.1) (em_var 9 iD z211.2.2)) (am_cons (em_bin op_mulX o_IIC (em_var 7 iD z211.1.2) (em_var 8 iD z211.2.1)) am_nil))) (g := fun b => (b.1, b.2.1)) (hf := fun _ => rfl)) (fc := (eD "NumberError" (t2 iD iD))) (fun x => some x) (fun _ => rfl)))) (xm_or1 (tm_cmp (op_neD (hu_ct _)) (o_ne eqf_bl) (em_call (S := sg_is_below) c_is_below (ha := (am_cons (em_var 4 (t2 iD iD) z208.1) (am_cons (em_var 5 (t2 iD iD) z208.2) am_nil))) (g := fun b => (b.1, b.2.1)) (hf := fun _ => rfl)) (em_cmp op_lt o_IB (em_bin op_mulX o_IIC (em_var 6 iD z211.1.1) (em_var 9 iD z211.2.2)) (em_bin op_mulX o_IIC (em_var 8 iD z211.2.1) (em_var 7 iD z211.1.2)))))))) (ss_end (ss_eqv (m2 := (fun (N : Empty → Prop) (R : Bool → Prop) (E : Str → Prop) => R false)) (ss_one (st_ret em_bl)) rfl)) (ss_done (T := Unit) () (.same (.same (.same (.same (.same (.same (.same (.same (.same (.same (.same (.same (.same (.same (.same (.same (.same (.same (.same (.same (.same (.same (.same (.same (.same (.same (.same (.same (.same .nil))))))))))))))))))))))))))))))) rfl)
 (fun s226 => (ss_cons (s1_eqv (m2 := (fun (N : Int → Prop) (R : Bool → Prop) (E : Str → Prop) => w_law_roll ((5 : Int)) (fun r237 => N r237) E)) (st_set 12 (em_call (S := sg_law_roll) c_law_roll (ha := (am_dice 2 (h := rfl) (hr := (am_cons em_int am_nil)))) (g := fun b => (b.1)) (hf := fun _ => rfl))) rfl)
 (fun z236 => (ss_cons (s1_eqv (m2 := (fun (N : Int → Prop) (R : Bool → Prop) (E : Str → Prop) => ixW z204 z236 (fun v239 => N v239) E)) (st_set 13 (em_ix ix_list o_ixL (em_var 1 (lD iD) z204) (em_var 12 iD z236))) rfl)
 (fun z238 => (ss_cons (s1_eqv (m2 := (fun (N : Int → Prop) (R : Bool → Prop) (E : Str → Prop) => (MulOk (maxI z211.1.1 (-z211.1.1)) z238 ∧ (DivOk ((maxI z211.1.1 (-z211.1.1)) * z238) z211.1.2 ∧ (MulOk (maxI z211.1.1 (-z211.1.1)) z238 ∧ (DivOk ((maxI z211.1.1 (-z211.1.1)) * z238) z211.1.2 ∧ (RgOk (Int.fdiv ((maxI z211.1.1 (-z211.1.1)) * z238) z211.1.2) ((Int.fdiv ((maxI z211.1.1 (-z211.1.1)) * z238) z211.1.2) + (2 : Int)) ∧ W.fm (rgL (Int.fdiv ((maxI z211.1.1 (-z211.1.1)) * z238) z211.1.2) ((Int.fdiv ((maxI z211.1.1 (-z211.1.1)) * z238) z211.1.2) + (2 : Int))) (fun x241 : Int => fun Q E => (MulOk (2 : Int) x241 ∧ (MulOk (((2 : Int) * x241) - (1 : Int)) z211.1.2 ∧ (MulOk (2 : Int) (maxI z211.1.1 (-z211.1.1)) ∧ (MulOk ((2 : Int) * (maxI z211.1.1 (-z211.1.1))) z238 ∧ W.ite (decide (((((2 : Int) * x241) - (1 : Int)) * z211.1.2) ≤ (((2 : Int) * (maxI z211.1.1 (-z211.1.1))) * z238))) (fun Q E => (MulOk (2 : Int) x241 ∧ (MulOk (((2 : Int) * x241) + (1 : Int)) z211.1.2 ∧ Q (decide ((((2 : Int) * (maxI z211.1.1 (-z211.1.1))) * z238) < ((((2 : Int) * x241) + (1 : Int)) * z211.1.2)))))) (W.ret false) (fun v245 => W.ite v245 (fun Q E => Q (some x241)) (W.ret none) Q E) E))))) (fun r243 => ixW r243 (0 : Int) (fun v242 => N v242) E) (fun _ => False)))))))) (st_set 14 (em_ix ix_list o_ixL (em_lc (fb := iD) (own := [(Str.ofString "whole", 19)]) (hi := (IM.o (im_range2 (hm := h_range) (h := (em_bin op_fdivX o_IIC (em_bin op_mulX o_IIC (em_callB (call_max2 (Ct.calm _)) c_max2 (hm := h_max) (hv := bt_max) (ha := (am_cons (em_var 6 iD z211.1.1) (am_cons (em_neg (em_var 6 iD z211.1.1)) am_nil)))) (em_var 13 iD z238)) (em_var 7 iD z211.1.2))) (h2 := (em_bin op_add o_II (em_bin op_fdivX o_IIC (em_bin op_mulX o_IIC (em_callB (call_max2 (Ct.calm _)) c_max2 (hm := h_max) (hv := bt_max) (ha := (am_cons (em_var 6 iD z211.1.1) (am_cons (em_neg (em_var 6 iD z211.1.1)) am_nil)))) (em_var 13 iD z238)) (em_var 7 iD z211.1.2)) em_int))))) (ok := blkOk_by (by rfl)) (hg := fun x241 s0 Hz c cl fp => (gm_name 19 (hf := by first | exact .inl rfl | exact .inr rfl))) (hj := by decide) (hT := pt_blk) (ht := (fun x241 => tn_if (fun s0 Hz c cl fp => (tm_chain op_le op_lt o_IB o_IB (em_bin op_mulX o_IIC (em_bin op_sub o_II (em_bin op_mulX o_IIC em_int (em_var 19 iD x241)) em_int) (em_var 7 iD z211.1.2)) (em_bin op_mulX o_IIC (em_bin op_mulX o_IIC em_int (em_callB (call_max2 (Ct.calm _)) c_max2 (hm := h_max) (hv := bt_max) (ha := (am_cons (em_var 6 iD z211.1.1) (am_cons (em_neg (em_var 6 iD z211.1.1)) am_nil))))) (em_var 13 iD z238)) (em_bin op_mulX o_IIC (em_bin op_add o_II (em_bin op_mulX o_IIC em_int (em_var 19 iD x241)) em_int) (em_var 7 iD z211.1.2)))) (fun s0 Hz c cl fp => (em_var 19 iD x241))))) em_int)) rfl)
 (fun z240 => (ss_cons (s1_eqv (m2 := (fun (N : Unit → Prop) (R : Bool → Prop) (E : Str → Prop) => w_rounded_text (z208.1, z236) (fun r247 => W.ite (decide (z211.1.1 < (0 : Int))) (fun Q E => Q (-z240)) (fun Q E => Q z240) (fun v248 => w_law_figures (v248, z236) (fun r249 => M.ite (!decide (r247 = r249)) (M.en (fun (N : Empty → Prop) (R : Bool → Prop) (E : Str → Prop) => R false)) (fun (N : Unit → Prop) (R : Bool → Prop) (E : Str → Prop) => N ()) N R E) E) E) E)) (st_if (g := (fun s246 : Unit => [.d ((lD iD) a), .d ((lD iD) z204), .dice, .d (iD x207), .d ((t2 iD iD) z208.1), .d ((t2 iD iD) z208.2), .d (iD z211.1.1), .d (iD z211.1.2), .d (iD z211.2.1), .d (iD z211.2.2), .d (iD z212.1), .d (iD z212.2), .d (iD z236), .d (iD z238), .d (iD z240), .un, .un, .un, .un, .un, .un, .un, .un, .un, .un, .un, .un, .un, .un])) (tm_cmp op_ne o_neS (em_call (S := sg_rounded_text) c_rounded_text (ha := (am_cons (em_var 4 (t2 iD iD) z208.1) (am_cons (em_var 12 iD z236) am_nil))) (g := fun b => (b.1, b.2.1)) (hf := fun _ => rfl)) (em_call (S := sg_law_figures) c_law_figures (ha := (am_cons (em_if (tm_cmp op_lt o_IB (em_var 6 iD z211.1.1) em_int) (em_neg (em_var 14 iD z240)) (em_var 14 iD z240)) (am_cons (em_var 12 iD z236) am_nil))) (g := fun b => (b.1, b.2.1)) (hf := fun _ => rfl))) (ss_end (ss_eqv (m2 := (fun (N : Empty → Prop) (R : Bool → Prop) (E : Str → Prop) => R false)) (ss_one (st_ret em_bl)) rfl)) (ss_done (T := Unit) () (.same (.same (.same (.same (.same (.same (.same (.same (.same (.same (.same (.same (.same (.same (.same (.same (.same (.same (.same (.same (.same (.same (.same (.same (.same (.same (.same (.same (.same .nil))))))))))))))))))))))))))))))) rfl)
 (fun s246 => (ss_cons (s1_eqv (m2 := (fun (N : (Int × Int) → Prop) (R : Bool → Prop) (E : Str → Prop) => N ((maxI z211.1.1 (-z211.1.1)), z211.1.2))) (st_set 15 (em_tup (fc := (t2 iD iD)) (am_cons (em_callB (call_max2 (Ct.calm _)) c_max2 (hm := h_max) (hv := bt_max) (ha := (am_cons (em_var 6 iD z211.1.1) (am_cons (em_neg (em_var 6 iD z211.1.1)) am_nil)))) (am_cons (em_var 7 iD z211.1.2) am_nil)) (fun b => (b.1, b.2.1)) (fun b => ⟨[iD b.1, iD b.2.1], rfl, rfl, Nat.le_of_ble_eq_true rfl⟩))) rfl)
 (fun z250 => (ss_cons (s1_eqv (m2 := (fun (N : Int → Prop) (R : Bool → Prop) (E : Str → Prop) => (MulOk z250.1 z238 ∧ (MulOk (z250.1 * z238) z238 ∧ (DivOk ((z250.1 * z238) * z238) z250.2 ∧ w_square_root ((Int.fdiv ((z250.1 * z238) * z238) z250.2)) (fun r252 => N r252) E))))) (st_set 16 (em_call (S := sg_square_root) c_square_root (ha := (am_cons (em_bin op_fdivX o_IIC (em_bin op_mulX o_IIC (em_bin op_mulX o_IIC (em_at ta_20 (em_var 15 (t2 iD iD) z250)) (em_var 13 iD z238)) (em_var 13 iD z238)) (em_at ta_21 (em_var 15 (t2 iD iD) z250))) am_nil)) (g := fun b => (b.1)) (hf := fun _ => rfl))) rfl)
 (fun z251 => (ss_cons (s1_eqv (m2 := (fun (N : Unit → Prop) (R : Bool → Prop) (E : Str → Prop) => (MulOk z251 z251 ∧ (MulOk (z251 * z251) z211.1.2 ∧ (MulOk z250.1 z238 ∧ (MulOk (z250.1 * z238) z238 ∧ W.ite (decide (((z251 * z251) * z211.1.2) ≤ ((z250.1 * z238) * z238))) (fun Q E => (MulOk (z251 + (1 : Int)) (z251 + (1 : Int)) ∧ (MulOk ((z251 + (1 : Int)) * (z251 + (1 : Int))) z211.1.2 ∧ Q (decide (((z250.1 * z238) * z238) < (((z251 + (1 : Int)) * (z251 + (1 : Int))) * z211.1.2)))))) (W.ret false) (fun v254 => M.ite (!v254) (M.en (fun (N : Empty → Prop) (R : Bool → Prop) (E : Str → Prop) => R false)) (fun (N : Unit → Prop) (R : Bool → Prop) (E : Str → Prop) => N ()) N R E) E)))))) (st_if (g := (fun s253 : Unit => [.d ((lD iD) a), .d ((lD iD) z204), .dice, .d (iD x207), .d ((t2 iD iD) z208.1), .d ((t2 iD iD) z208.2), .d (iD z211.1.1), .d (iD z211.1.2), .d (iD z211.2.1), .d (iD z211.2.2), .d (iD z212.1), .d (iD z212.2), .d (iD z236), .d (iD z238), .d (iD z240), .d ((t2 iD iD) z250), .d (iD z251), .un, .un, .un, .un, .un, .un, .un, .un, .un, .un, .un, .un])) (tm_not (tm_chain op_le op_lt o_IB o_IB (em_bin op_mulX o_IIC (em_bin op_mulX o_IIC (em_var 16 iD z251) (em_var 16 iD z251)) (em_var 7 iD z211.1.2)) (em_bin op_mulX o_IIC (em_bin op_mulX o_IIC (em_at ta_20 (em_var 15 (t2 iD iD) z250)) (em_var 13 iD z238)) (em_var 13 iD z238)) (em_bin op_mulX o_IIC (em_bin op_mulX o_IIC (em_bin op_add o_II (em_var 16 iD z251) em_int) (em_bin op_add o_II (em_var 16 iD z251) em_int)) (em_var 7 iD z211.1.2)))) (ss_end (ss_eqv (m2 := (fun (N : Empty → Prop) (R : Bool → Prop) (E : Str → Prop) => R false)) (ss_one (st_ret em_bl)) rfl)) (ss_done (T := Unit) () (.same (.same (.same (.same (.same (.same (.same (.same (.same (.same (.same (.same (.same (.same (.same (.same (.same (.same (.same (.same (.same (.same (.same (.same (.same (.same (.same (.same (.same .nil))))))))))))))))))))))))))))))) rfl)
 (fun s253 => (ss_cons (s1_eqv (m2 := (fun (N : Unit → Prop) (R : Bool → Prop) (E : Str → Prop) => w_root_text (z250, z236) (fun r256 => w_law_figures (z251, z236) (fun r257 => M.ite (!decide (r256 = r257)) (M.en (fun (N : Empty → Prop) (R : Bool → Prop) (E : Str → Prop) => R false)) (fun (N : Unit → Prop) (R : Bool → Prop) (E : Str → Prop) => N ()) N R E) E) E)) (st_if (g := (fun s255 : Unit => [.d ((lD iD) a), .d ((lD iD) z204), .dice, .d (iD x207), .d ((t2 iD iD) z208.1), .d ((t2 iD iD) z208.2), .d (iD z211.1.1), .d (iD z211.1.2), .d (iD z211.2.1), .d (iD z211.2.2), .d (iD z212.1), .d (iD z212.2), .d (iD z236), .d (iD z238), .d (iD z240), .d ((t2 iD iD) z250), .d (iD z251), .un, .un, .un, .un, .un, .un, .un, .un, .un, .un, .un, .un])) (tm_cmp op_ne o_neS (em_call (S := sg_root_text) c_root_text (ha := (am_cons (em_var 15 (t2 iD iD) z250) (am_cons (em_var 12 iD z236) am_nil))) (g := fun b => (b.1, b.2.1)) (hf := fun _ => rfl)) (em_call (S := sg_law_figures) c_law_figures (ha := (am_cons (em_var 16 iD z251) (am_cons (em_var 12 iD z236) am_nil))) (g := fun b => (b.1, b.2.1)) (hf := fun _ => rfl))) (ss_end (ss_eqv (m2 := (fun (N : Empty → Prop) (R : Bool → Prop) (E : Str → Prop) => R false)) (ss_one (st_ret em_bl)) rfl)) (ss_done (T := Unit) () (.same (.same (.same (.same (.same (.same (.same (.same (.same (.same (.same (.same (.same (.same (.same (.same (.same (.same (.same (.same (.same (.same (.same (.same (.same (.same (.same (.same (.same .nil))))))))))))))))))))))))))))))) rfl)
 (fun s255 => (ss_cons (s1_eqv (m2 := (fun (N : Str → Prop) (R : Bool → Prop) (E : Str → Prop) => (MulOk z212.1 (7 : Int) ∧ w_law_figures ((z212.1 * (7 : Int)), z236) (fun r259 => N r259) E))) (st_set 17 (em_call (S := sg_law_figures) c_law_figures (ha := (am_cons (em_bin op_mulX o_IIC (em_var 10 iD z212.1) em_int) (am_cons (em_var 12 iD z236) am_nil))) (g := fun b => (b.1, b.2.1)) (hf := fun _ => rfl))) rfl)
 (fun z258 => (ss_cons (s1_eqv (m2 := (fun (N : Unit → Prop) (R : Bool → Prop) (E : Str → Prop) => w_read_part (z258) (fun r267 => (MulOk z212.1 (7 : Int) ∧ w_law_low ((z212.1 * (7 : Int)), z238) (fun r268 => W.ite (!decide (r267 = r268)) (W.ret true) (fun Q E => strW z211.1.1 (fun v264 => addSW v264 (Str.ofString "/") (fun v263 => strW z211.1.2 (fun v265 => addSW v263 v265 (fun v262 => w_read_part (v262) (fun r266 => Q (!decide (r266 = z208.1))) E) E) E) E) E) (fun v261 => M.ite v261 (M.en (fun (N : Empty → Prop) (R : Bool → Prop) (E : Str → Prop) => R false)) (fun (N : Unit → Prop) (R : Bool → Prop) (E : Str → Prop) => N ()) N R E) E) E)) E)) (st_if (g := (fun s260 : Unit => [.d ((lD iD) a), .d ((lD iD) z204), .dice, .d (iD x207), .d ((t2 iD iD) z208.1), .d ((t2 iD iD) z208.2), .d (iD z211.1.1), .d (iD z211.1.2), .d (iD z211.2.1), .d (iD z211.2.2), .d (iD z212.1), .d (iD z212.2), .d (iD z236), .d (iD z238), .d (iD z240), .d ((t2 iD iD) z250), .d (iD z251), .d (sD z258), .un, .un, .un, .un, .un, .un, .un, .un, .un, .un, .un])) (tm_bool (xm_or (tm_cmp (op_neD (hu_ct _)) (o_ne (eqf_t2 eqf_int eqf_int)) (em_call (S := sg_read_part) c_read_part (ha := (am_cons (em_var 17 sD z258) am_nil)) (g := fun b => (b.1)) (hf := fun _ => rfl)) (em_call (S := sg_law_low) c_law_low (ha := (am_cons (em_bin op_mulX o_IIC (em_var 10 iD z212.1) em_int) (am_cons (em_var 13 iD z238) am_nil))) (g := fun b => (b.1, b.2.1)) (hf := fun _ => rfl))) (xm_or1 (tm_cmp (op_neD (hu_ct _)) (o_ne (eqf_t2 eqf_int eqf_int)) (em_call (S := sg_read_part) c_read_part (ha := (am_cons (em_bin op_add_str o_addS (em_bin op_add_str o_addS (em_callTy call_str_int c_str (hm := h_str) (hv := bt_str) (ha := (am_cons (em_var 6 iD z211.1.1) am_nil))) em_str) (em_callTy call_str_int c_str (hm := h_str) (hv := bt_str) (ha := (am_cons (em_var 7 iD z211.1.2) am_nil)))) am_nil)) (g := fun b => (b.1)) (hf := fun _ => rfl)) (em_var 4 (t2 iD iD) z208.1))))) (ss_end (ss_eqv (m2 := (fun (N : Empty → Prop) (R : Bool → Prop) (E : Str → Prop) => R false)) (ss_one (st_ret em_bl)) rfl)) (ss_done (T := Unit) () (.same (.same (.same (.same (.same (.same (.same (.same (.same (.same (.same (.same (.same (.same (.same (.same (.same (.same (.same (.same (.same (.same (.same (.same (.same (.same (.same (.same (.same .nil))))))))))))))))))))))))))))))) rfl)
 (fun s260 => (ss_done (T := Unit) () (.same (.same (.same (.drop (.drop (.drop (.drop (.drop (.drop (.drop (.drop (.drop (.drop (.drop (.drop (.drop (.drop (.drop (.same (.same (.same (.same (.same (.same (.same (.same (.same (.same (.same .nil)))))))))))))))))))))))))))))))))))))))))))))))))))))))))))))) rfl)
 (fun s206 => (ss_cons (s1_eqv (m2 := (fun (N : (List (Int × Int)) → Prop) (R : Bool → Prop) (E : Str → Prop) => w_law_roll ((8 : Int)) (fun r273 => (RgOk 0 r273 ∧ W.fm (rgL 0 r273) (fun x270 : Int => fun Q E => w_law_drawn () (fun r272 => Q (some r272)) E) (fun r271 => N r271) (fun _ => False))) E)) (st_setLc (fb := (t2 iD iD)) 18 (own := [(Str.ofString "k", 26)]) (hi := (IM.o (im_range1 (hm := h_range) (h := (em_call (S := sg_law_roll) c_law_roll (ha := (am_dice 2 (h := rfl) (hr := (am_cons em_int am_nil)))) (g := fun b => (b.1)) (hf := fun _ => rfl)))))) (ok := blkOk_by (by rfl)) (hg := fun x270 s0 Hz c cl fp => (gm_name 26 (hf := by first | exact .inl rfl | exact .inr rfl))) (hj := by decide) (hT := pt_blk0) (ht := (fun x270 => tn_all (fun s0 Hz c cl fp => (em_call (S := sg_law_drawn) c_law_drawn (ha := (am_dice 2 (h := rfl) (hr := am_nil))) (g := fun b => ()) (hf := fun _ => rfl))))) (hy := rfl) (hsw := rfl)) rfl)
 (fun z269 => (ss_cons (s1_eqv (m2 := (fun (N : (Int × Int) → Prop) (R : Bool → Prop) (E : Str → Prop) => N ((0 : Int), (1 : Int)))) (st_set 19 (em_tup (fc := (t2 iD iD)) (am_cons em_int (am_cons em_int am_nil)) (fun b => (b.1, b.2.1)) (fun b => ⟨[iD b.1, iD b.2.1], rfl, rfl, Nat.le_of_ble_eq_true rfl⟩))) rfl)
 (fun z274 => (ss_cons (s1_eqv (m2 := (fun (N : ((Int × Int)) → Prop) (R : Bool → Prop) (E : Str → Prop) => M.for (S := ((Int × Int))) (R := Bool) z269 (z274) (fun s275 => fun x276 : (Int × Int) => (M.bd (S := (Int × Int)) (T := ((Int × Int))) (R := Bool) (fun (N : (Int × Int) → Prop) (R : Bool → Prop) (E : Str → Prop) => (MulOk s275.1 x276.2 ∧ (MulOk x276.1 s275.2 ∧ (MulOk s275.2 x276.2 ∧ w_law_low (((s275.1 * x276.2) + (x276.1 * s275.2)), (s275.2 * x276.2)) (fun r278 => N r278) E))))
 (fun z277 => (fun (N : ((Int × Int)) → Prop) (R : Bool → Prop) (E : Str → Prop) => N (z277))))) N R E)) (st_for (f := (t2 iD iD)) (S := ((Int × Int))) (g := (fun s275 : ((Int × Int)) => [.d ((lD iD) a), .d ((lD iD) z204), .dice, .un, .un, .un, .un, .un, .un, .un, .un, .un, .un, .un, .un, .un, .un, .un, .d ((lD (t2 iD iD)) z269), .d ((t2 iD iD) s275), .un, .un, .un, .un, .un, .un, .un, .un, .un])) (z274) (im_list (em_var 18 (lD (t2 iD iD)) z269)) (.same (.same (.same (.same (.same (.same (.same (.same (.same (.same (.same (.same (.same (.same (.same (.same (.same (.same (.same (.same (.same (.same (.same (.same (.same (.same (.same (.same (.same .nil))))))))))))))))))))))))))))) (fun x276 => (gm_tup (gms_cons (gm_name 6 (hf := by first | exact .inl rfl | exact .inr rfl)) (gms_cons (gm_name 7 (hf := by first | exact .inl rfl | exact .inr rfl)) gms_nil)))) (fun s275 x276 => (ss_cons (s1_eqv (m2 := (fun (N : (Int × Int) → Prop) (R : Bool → Prop) (E : Str → Prop) => (MulOk s275.1 x276.2 ∧ (MulOk x276.1 s275.2 ∧ (MulOk s275.2 x276.2 ∧ w_law_low (((s275.1 * x276.2) + (x276.1 * s275.2)), (s275.2 * x276.2)) (fun r278 => N r278) E))))) (st_set 19 (em_call (S := sg_law_low) c_law_low (ha := (am_cons (em_bin op_add o_II (em_bin op_mulX o_IIC (em_at ta_20 (em_var 19 (t2 iD iD) s275)) (em_var 7 iD x276.2)) (em_bin op_mulX o_IIC (em_var 6 iD x276.1) (em_at ta_21 (em_var 19 (t2 iD iD) s275)))) (am_cons (em_bin op_mulX o_IIC (em_at ta_21 (em_var 19 (t2 iD iD) s275)) (em_var 7 iD x276.2)) am_nil))) (g := fun b => (b.1, b.2.1)) (hf := fun _ => rfl))) rfl)
 (fun z277 => (ss_done (T := ((Int × Int))) (z277) (.same (.same (.same (.same (.same (.same (.drop (.drop (.same (.same (.same (.same (.same (.same (.same (.same (.same (.same (.same (.same (.same (.same (.same (.same (.same (.same (.same (.same (.same .nil)))))))))))))))))))))))))))))))))) rfl)
 (fun s275 => (ss_cons (s1_eqv (m2 := (fun (N : (List (Int × Int)) → Prop) (R : Bool → Prop) (E : Str → Prop) => w_in_part_order (z269) (fun r280 => N r280) E)) (st_set 20 (em_call (S := sg_in_part_order) c_in_part_order (ha := (am_cons (em_var 18 (lD (t2 iD iD)) z269) am_nil)) (g := fun b => (b.1)) (hf := fun _ => rfl))) rfl)
 (fun z279 => (ss_cons (s1_eqv (m2 := (fun (N : Unit → Prop) (R : Bool → Prop) (E : Str → Prop) => w_sum_parts (z269) (fun r285 => W.ite (!decide (r285 = s275)) (W.ret true) (fun Q E => sortPW z279 (fun v283 => sortPW z269 (fun v284 => Q (!decide (v283 = v284))) E) E) (fun v282 => M.ite v282 (M.en (fun (N : Empty → Prop) (R : Bool → Prop) (E : Str → Prop) => R false)) (fun (N : Unit → Prop) (R : Bool → Prop) (E : Str → Prop) => N ()) N R E) E) E)) (st_if (g := (fun s281 : Unit => [.d ((lD iD) a), .d ((lD iD) z204), .dice, .un, .un, .un, .un, .un, .un, .un, .un, .un, .un, .un, .un, .un, .un, .un, .d ((lD (t2 iD iD)) z269), .d ((t2 iD iD) s275), .d ((tD (t2 iD iD)) z279), .un, .un, .un, .un, .un, .un, .un, .un])) (tm_bool (xm_or (tm_cmp (op_neD (hu_ct _)) (o_ne (eqf_t2 eqf_int eqf_int)) (em_call (S := sg_sum_parts) c_sum_parts (ha := (am_cons (em_var 18 (lD (t2 iD iD)) z269) am_nil)) (g := fun b => (b.1)) (hf := fun _ => rfl)) (em_var 19 (t2 iD iD) s275)) (xm_or1 (tm_cmp (op_neD (hu_ct _)) (o_ne (eqf_l (eqf_t2 eqf_int eqf_int))) (em_callB cr_sortPA c_sortPT (hm := h_sorted) (hv := bt_sorted) (ha := (am_cons (em_var 20 (tD (t2 iD iD)) z279) am_nil))) (em_callB cr_sortPA c_sortPL (hm := h_sorted) (hv := bt_sorted) (ha := (am_cons (em_var 18 (lD (t2 iD iD)) z269) am_nil))))))) (ss_end (ss_eqv (m2 := (fun (N : Empty → Prop) (R : Bool → Prop) (E : Str → Prop) => R false)) (ss_one (st_ret em_bl)) rfl)) (ss_done (T := Unit) () (.same (.same (.same (.same (.same (.same (.same (.same (.same (.same (.same (.same (.same (.same (.same (.same (.same (.same (.same (.same (.same (.same (.same (.same (.same (.same (.same (.same (.same .nil))))))))))))))))))))))))))))))) rfl)
 (fun s281 => (ss_cons (s1_eqv (m2 := (fun (N : Unit → Prop) (R : Bool → Prop) (E : Str → Prop) => W.fm (List.zip z279 (cutL z279 (some (1 : Int)) none)) (fun x286 : ((Int × Int) × (Int × Int)) => fun Q E => (MulOk x286.1.1 x286.2.2 ∧ (MulOk x286.2.1 x286.1.2 ∧ W.ite (decide ((x286.2.1 * x286.1.2) < (x286.1.1 * x286.2.2))) (fun Q E => Q (some (1 : Int))) (W.ret none) Q E))) (fun r288 => M.ite (!decide (r288 = ([] : (List Int)))) (M.en (fun (N : Empty → Prop) (R : Bool → Prop) (E : Str → Prop) => R false)) (fun (N : Unit → Prop) (R : Bool → Prop) (E : Str → Prop) => N ()) N R E) (fun _ => False))) (st_if (g := (fun s287 : Unit => [.d ((lD iD) a), .d ((lD iD) z204), .dice, .un, .un, .un, .un, .un, .un, .un, .un, .un, .un, .un, .un, .un, .un, .un, .d ((lD (t2 iD iD)) z269), .d ((t2 iD iD) s275), .d ((tD (t2 iD iD)) z279), .un, .un, .un, .un, .un, .un, .un, .un])) (tm_cmp (op_neD (hu_ct _)) (o_ne (eqf_l eqf_int)) (em_lc (fb := iD) (own := [(Str.ofString "one", 4), (Str.ofString "two", 28)]) (hi := (IM.o (im_zipT (hm := h_zip) (h1 := (em_var 20 (tD (t2 iD iD)) z279)) (h2 := (em_sliceT (em_var 20 (tD (t2 iD iD)) z279) (om_some em_int) om_none))))) (ok := blkOk_by (by rfl)) (hg := fun x286 s0 Hz c cl fp => (gm_tup (gms_cons (gm_name 4 (hf := by first | exact .inl rfl | exact .inr rfl)) (gms_cons (gm_name 28 (hf := by first | exact .inl rfl | exact .inr rfl)) gms_nil)))) (hj := by decide) (hT := pt_blk) (ht := (fun x286 => tn_if (fun s0 Hz c cl fp => (tm_cmp op_gt o_IB (em_bin op_mulX o_IIC (em_at ta_20 (em_var 4 (t2 iD iD) x286.1)) (em_at ta_21 (em_var 28 (t2 iD iD) x286.2))) (em_bin op_mulX o_IIC (em_at ta_20 (em_var 28 (t2 iD iD) x286.2)) (em_at ta_21 (em_var 4 (t2 iD iD) x286.1))))) (fun s0 Hz c cl fp => em_int)))) (em_lst (fc := (lD iD)) (γ := (List Int)) am_nil (fun b => []) (fun b => ⟨[], rfl, rfl, Nat.le_of_ble_eq_true rfl⟩))) (ss_end (ss_eqv (m2 := (fun (N : Empty → Prop) (R : Bool → Prop) (E : Str → Prop) => R false)) (ss_one (st_ret em_bl)) rfl)) (ss_done (T := Unit) () (.same (.same (.same (.same (.same (.same (.same (.same (.same (.same (.same (.same (.same (.same (.same (.same (.same (.same (.same (.same (.same (.same (.same (.same (.same (.same (.same (.same (.same .nil))))))))))))))))))))))))))))))) rfl)
 (fun s287 => (ss_cons (s1_eqv (m2 := (fun (N : Str → Prop) (R : Bool → Prop) (E : Str → Prop) => w_law_roll ((6 : Int)) (fun r296 => (RgOk 0 r296 ∧ W.fm (rgL 0 r296) (fun x291 : Int => fun Q E => w_law_roll ((13 : Int)) (fun r295 => ixSW (Str.ofString "0123456789/.-") r295 (fun v294 => Q (some v294)) E) E) (fun r293 => joinW (Str.ofString "") r293 (fun v292 => N v292) E) (fun _ => False))) E)) (st_set 21 (em_join em_str (em_lc (fb := sD) (own := [(Str.ofString "k", 26)]) (hi := (IM.o (im_range1 (hm := h_range) (h := (em_call (S := sg_law_roll) c_law_roll (ha := (am_dice 2 (h := rfl) (hr := (am_cons em_int am_nil)))) (g := fun b => (b.1)) (hf := fun _ => rfl)))))) (ok := blkOk_by (by rfl)) (hg := fun x291 s0 Hz c cl fp => (gm_name 26 (hf := by first | exact .inl rfl | exact .inr rfl))) (hj := by decide) (hT := pt_blk0) (ht := (fun x291 => tn_all (fun s0 Hz c cl fp => (em_ix ix_str o_ixS em_str (em_call (S := sg_law_roll) c_law_roll (ha := (am_dice 2 (h := rfl) (hr := (am_cons em_int am_nil)))) (g := fun b => (b.1)) (hf := fun _ => rfl))))))))) rfl)
 (fun z290 => (ss_cons (s1_eqv (m2 := (fun (N : Str → Prop) (R : Bool → Prop) (E : Str → Prop) => cutSW z290 none (some (1 : Int)) (fun v300 => W.ite (decide (v300 = (Str.ofString "-"))) (fun Q E => cutSW z290 (some (1 : Int)) none (fun v299 => Q v299) E) (fun Q E => Q z290) (fun v298 => N v298) E) E)) (st_set 22 (em_if (tm_cmp op_eq o_eqS (em_sliceS (em_var 21 sD z290) om_none (om_some em_int)) em_str) (em_sliceS (em_var 21 sD z290) (om_some em_int) om_none) (em_var 21 sD z290))) rfl)
 (fun z297 => (ss_cons (s1_eqv (m2 := (fun (N : (List Str) → Prop) (R : Bool → Prop) (E : Str → Prop) => (Str.length z297 ≤ sizeLine ∧ W.fm (Wl.signs z297) (fun x302 : Str => fun Q E => ninSW x302 (Str.ofString "0123456789") (fun v305 => W.ite v305 (fun Q E => Q (some x302)) (W.ret none) Q E) E) (fun r303 => N r303) (fun _ => False)))) (st_setLc (fb := sD) 23 (own := [(Str.ofString "sign", 27)]) (hi := (IM.o (im_str (em_var 22 sD z297)))) (ok := blkOk_by (by rfl)) (hg := fun x302 s0 Hz c cl fp => (gm_name 27 (hf := by first | exact .inl rfl | exact .inr rfl))) (hj := by decide) (hT := pt_blk) (ht := (fun x302 => tn_if (fun s0 Hz c cl fp => (tm_cmp op_notIn_sign o_ninS (em_var 27 sD x302) em_str)) (fun s0 Hz c cl fp => (em_var 27 sD x302)))) (hy := rfl) (hsw := rfl)) rfl)
 (fun z301 => (ss_cons (s1_eqv (m2 := (fun (N : (List Str) → Prop) (R : Bool → Prop) (E : Str → Prop) => (neXW (okL okS)) z301 ([] : (List Str)) (fun v310 => W.ite v310 (fun Q E => ixW z301 (0 : Int) (fun v309 => splitW z297 v309 (fun v308 => Q v308) E) E) (fun Q E => Q ([z297] : (List Str))) (fun v307 => N v307) E) E)) (st_set 24 (em_if (tm_cmp (op_neD (hu_ct _)) (o_neX (eqx_l eqx_s)) (em_var 23 (lD sD) z301) (em_lst (fc := (lD sD)) (γ := (List Str)) am_nil (fun b => []) (fun b => ⟨[], rfl, rfl, Nat.le_of_ble_eq_true rfl⟩))) (em_split (em_var 22 sD z297) (em_ix ix_list o_ixL (em_var 23 (lD sD) z301) em_int)) (em_lst (fc := (lD sD)) (γ := (List Str)) (am_cons (em_var 22 sD z297) am_nil) (fun b => [b.1]) (fun b => ⟨[sD b.1], rfl, rfl, Nat.le_of_ble_eq_true rfl⟩)))) rfl)
 (fun z306 => (ss_cons (s1_eqv (m2 := (fun (N : Bool → Prop) (R : Bool → Prop) (E : Str → Prop) => W.ite (decide ((List.length z301 : Int) < (2 : Int))) (fun Q E => (neXW (okL okS)) z301 ([(Str.ofString "-")] : (List Str)) (fun v320 => W.ite v320 (fun Q E => (ninXW okS) (Str.ofString "") z306 (fun v319 => W.ite v319 (fun Q E => (eqXW (okL okS)) z301 ([(Str.ofString "/")] : (List Str)) (fun v318 => W.ite v318 (fun Q E => ixW z306 (1 : Int) (fun v316 => intSW v316 (fun v317 => Q (decide (v317 = (0 : Int)))) E) E) (W.ret false) (fun v315 => Q (!v315)) E) E) (W.ret false) (fun v314 => Q v314) E) E) (W.ret false) (fun v313 => Q v313) E) E) (W.ret false) (fun v312 => N v312) E)) (st_set 25 (em_and (em_cmp op_lt o_IB (em_callB call_len c_lenL (hm := h_len) (hv := bt_len) (ha := (am_cons (em_var 23 (lD sD) z301) am_nil))) em_int) (em_and (em_cmp (op_neD (hu_ct _)) (o_neX (eqx_l eqx_s)) (em_var 23 (lD sD) z301) (em_lst (fc := (lD sD)) (γ := (List Str)) (am_cons em_str am_nil) (fun b => [b.1]) (fun b => ⟨[sD b.1], rfl, rfl, Nat.le_of_ble_eq_true rfl⟩))) (em_and (em_cmp (op_notInD (hu_ct5 _)) (o_ninL eqx_s) em_str (em_var 24 (lD sD) z306)) (em_one (em_not (em_and (em_cmp (op_eqD (hu_ct _)) (o_eqX (eqx_l eqx_s)) (em_var 23 (lD sD) z301) (em_lst (fc := (lD sD)) (γ := (List Str)) (am_cons em_str am_nil) (fun b => [b.1]) (fun b => ⟨[sD b.1], rfl, rfl, Nat.le_of_ble_eq_true rfl⟩))) (em_one (em_cmp (op_eqD (hu_ct _)) (o_eq eqf_int) (em_callTy call_int_str c_intS (hm := h_int) (hv := bt_int) (ha := (am_cons (em_ix ix_list o_ixL (em_var 24 (lD sD) z306) em_int) am_nil))) em_int))))))))) rfl)
 (fun z311 => (ss_cons (s1_eqv (m2 := (fun (N : Unit → Prop) (R : Bool → Prop) (E : Str → Prop) => toldW (Str.ofString "NumberError") (fun (Q : (Int × Int) → Prop) (E : Str → Prop) => w_read_part (z290) (fun r323 => Q r323) E) (fun r322 => M.ite (!decide ((!decide (r322 = none)) = z311)) (M.en (fun (N : Empty → Prop) (R : Bool → Prop) (E : Str → Prop) => R false)) (fun (N : Unit → Prop) (R : Bool → Prop) (E : Str → Prop) => N ()) N R E) E)) (st_if (g := (fun s321 : Unit => [.d ((lD iD) a), .d ((lD iD) z204), .dice, .un, .un, .un, .un, .un, .un, .un, .un, .un, .un, .un, .un, .un, .un, .un, .d ((lD (t2 iD iD)) z269), .d ((t2 iD iD) s275), .d ((tD (t2 iD iD)) z279), .d (sD z290), .d (sD z297), .d ((lD sD) z301), .d ((lD sD) z306), .d (bD z311), .un, .un, .un])) (tm_cmp (op_neD (hu_ct _)) (o_ne eqf_bl) (em_cmp (op_neD (hu_ct _)) (o_ne (eqf_e "NumberError" (by decide +kernel) (eqf_t2 eqf_int eqf_int) (fun _ => rfl) (fun _ => rfl))) (em_told (k := 3) (f := (t2 iD iD)) (T := t_law_told) (hk := Nat.le_of_ble_eq_true rfl) (hg := rfl) (hT := hT) (TB := TB) (hcode := rfl) (L := LamX.lamS_by (by rfl)) (hdef := rfl) (hbind := fun _ _ _ => rfl) (hbody := fun fa ca' A outer s H E hr => (em_call (S := sg_read_part) c_read_part (ha := (am_cons (em_var 21 sD z290) am_nil)) (g := fun b => (b.1)) (hf := fun _ => rfl)))) (em_strE (f := (t2 iD iD)))) (em_var 25 bD z311)) (ss_end (ss_eqv (m2 := (fun (N : Empty → Prop) (R : Bool → Prop) (E : Str → Prop) => R false)) (ss_one (st_ret em_bl)) rfl)) (ss_done (T := Unit) () (.same (.same (.same (.same (.same (.same (.same (.same (.same (.same (.same (.same (.same (.same (.same (.same (.same (.same (.same (.same (.same (.same (.same (.same (.same (.same (.same (.same (.same .nil))))))))))))))))))))))))))))))) rfl)
 (fun s321 => (ss_done (T := Unit) () (.same (.same (.drop (.same (.same (.same (.same (.same (.same (.same (.same (.same (.same (.same (.same (.same (.same (.same (.drop (.drop (.drop (.drop (.drop (.drop (.drop (.drop (.same (.same (.same .nil)))))))))))))))))))))))))))))))))))))))))))))))))))))))))) rfl)
 (fun _ => (ss_eqv (m2 := (fun (N : Empty → Prop) (R : Bool → Prop) (E : Str → Prop) => w_law_plain () (fun r324 => R r324) E)) (ss_one (st_ret (em_call0 (S := sg_law_plain) c_law_plain (z := ()) (hf := rfl)))) rfl))))) rfl
end
end K1
namespace K1
open PySem Wl
/-! ### 1. numbers -/
theorem sp_common {t b : Int} {Q : Int → Prop} {E : Str → Prop} (h : Q (Int.gcd t b : Int)) : w_common_whole (absI t, absI b) Q E := by
  rw [absI_eq, absI_eq]
  exact gcd_run b.natAbs t.natAbs (fun s => Q s.1) Q E h
theorem sp_part {t b : Int} {Q : Int × Int → Prop} {E : Str → Prop} (h0 : b ≠ 0) (h1 : -(2 ^ 64) < b) (h2 : b < 2 ^ 64) (h : Q (nf t b)) : w_part_of (t, b) Q E := by
  have hd := gcd_small (t := t) h0 h1 h2
  unfold nf at h
  simp only [w_part_of, M.bd, M.en, M.ite, W.ite]
  rw [if_neg (by simpa using h0)]
  by_cases hb : b < 0
  · rw [if_pos (by simpa using hb)]
    rw [if_pos hb] at h
    refine sp_common ⟨mulOk_l (by decide) (by decide), hd _, mulOk_l (by decide) (by decide), hd _, ?_⟩
    have e1 : ((0 : Int) - 1) * t = -t := by omega
    have e2 : ((0 : Int) - 1) * b = -b := by omega
    rw [e1, e2]
    exact h
  · rw [if_neg (by simpa using hb)]
    rw [if_neg hb] at h
    refine sp_common ⟨mulOk_l (by decide) (by decide), hd _, mulOk_l (by decide) (by decide), hd _, ?_⟩
    rw [Int.one_mul, Int.one_mul]
    exact h
theorem sp_part0 {t : Int} {Q : Int × Int → Prop} {E : Str → Prop} (h : E (Str.ofString "NumberError")) : w_part_of (t, 0) Q E := by
  simp only [w_part_of, M.bd, M.en, M.ite, W.ite]
  rw [if_pos (by simp)]
  exact h
theorem sp_low {t b : Int} {Q : Int × Int → Prop} {E : Str → Prop} (h0 : b ≠ 0) (h1 : -(2 ^ 64) < b) (h2 : b < 2 ^ 64) (h : Q (nf t b)) : w_law_low (t, b) Q E := by
  have hd := gcd_small (t := t) h0 h1 h2
  unfold nf at h
  have key : ∀ (u c : Int), u.natAbs = t.natAbs → c = (b.natAbs : Int) → Q (Int.fdiv u (Int.gcd t b), Int.fdiv c (Int.gcd t b)) →
      M.whl gC (gB (R := Int × Int)) (maxI u (-u), c) (fun s => DivOk u s.1 ∧ DivOk c s.1 ∧ Q (Int.fdiv u s.1, Int.fdiv c s.1)) Q E := fun u c e1 e2 q => by
    rw [maxN_eq, e1, e2]
    exact gcd_run b.natAbs t.natAbs _ _ _ ⟨hd _, hd _, by rw [e2] at q; exact q⟩
  simp only [w_law_low, M.bd, W.ite]
  by_cases hb : b < 0
  · rw [if_pos (by simpa using hb)]
    rw [if_pos hb] at h
    exact key (-t) (-b) (by omega) (by omega) h
  · rw [if_neg (by simpa using hb)]
    rw [if_neg hb] at h
    exact key t b rfl (by omega) h
end K1
namespace K1
open PySem Wl
/-! ### 2. texts -/
theorem ofS_zero : Str.ofString "0" = S [48] := by decide +kernel
theorem ofS_dot : Str.ofString "." = S [46] := by decide +kernel
theorem ofS_minus : Str.ofString "-" = S [45] := by decide +kernel
theorem ofS_slash : Str.ofString "/" = S [47] := by decide +kernel
theorem ofS_one : Str.ofString "1" = S [49] := by decide +kernel
theorem ofS_nil : Str.ofString "" = S [] := by decide +kernel
theorem ofS_digits : Str.ofString "0123456789" = S [48, 49, 50, 51, 52, 53, 54, 55, 56, 57] := by decide +kernel
theorem pow20 {p : Nat} (h : p ≤ 9) : (10 : Nat) ^ p ≤ 10 ^ 9 := Nat.pow_le_pow_right (by decide) h
theorem sp_figures {x : Int} {p : Nat} {Q : Str → Prop} {E : Str → Prop} (h1 : -(2 ^ 64) < x) (h2 : x < 2 ^ 64) (hp : p ≤ 9) (h : Q (S (figL (decide (x < 0)) x.natAbs p))) : w_law_figures (x, (p : Int)) Q E := by
  simp only [w_law_figures, M.bd]
  rw [maxN_eq]
  refine w_str (by omega) ?_
  have hl := numL_len64 (n := x.natAbs) (by omega)
  refine w_len (by omega) ?_
  rw [ofS_zero]
  refine w_rep (by omega) (by omega) ?_
  refine w_add (by rw [List.length_replicate]; omega) ?_
  have e1 : List.replicate ((p : Int) + 1 - ((TL.numL x.natAbs).length : Int)).toNat 48 ++ TL.numL x.natAbs = padL (p + 1) (TL.numL x.natAbs) := by
    unfold padL
    congr 2
    omega
  rw [e1, pad_split]
  have hq : (TL.numL (x.natAbs / 10 ^ p)).length ≤ 20 := numL_len64 (Nat.lt_of_le_of_lt (Nat.div_le_self _ _) (by omega))
  have hf := fw_len p x.natAbs
  have key : ∀ sg : List Nat, sg.length ≤ 1 → Q (S (sg ++ (TL.numL (x.natAbs / 10 ^ p) ++ (if p = 0 then [] else 46 :: fw p x.natAbs)))) →
      W.ite (decide ((p : Int) = 0)) (fun Q E => Q (S (TL.numL (x.natAbs / 10 ^ p) ++ fw p x.natAbs)))
        (fun Q E => lenSW (S (TL.numL (x.natAbs / 10 ^ p) ++ fw p x.natAbs)) (fun v153 => cutSW (S (TL.numL (x.natAbs / 10 ^ p) ++ fw p x.natAbs)) none (some (v153 - (p : Int))) (fun v152 => addSW v152 (Str.ofString ".") (fun v151 => lenSW (S (TL.numL (x.natAbs / 10 ^ p) ++ fw p x.natAbs)) (fun v155 => cutSW (S (TL.numL (x.natAbs / 10 ^ p) ++ fw p x.natAbs)) (some (v155 - (p : Int))) none (fun v154 => addSW v151 v154 (fun v150 => Q v150) E) E) E) E) E) E) (fun v149 => addSW (S sg) v149 (fun v147 => Q v147) E) E := fun sg hs q => by
    have hall : (TL.numL (x.natAbs / 10 ^ p) ++ fw p x.natAbs).length = (TL.numL (x.natAbs / 10 ^ p)).length + p := by rw [List.length_append, hf]
    simp only [W.ite]
    by_cases h0 : p = 0
    · rw [if_pos (by simpa using h0)]
      rw [if_pos h0, List.append_nil] at q
      subst h0
      refine w_add (by rw [hall]; omega) ?_
      rw [fw, List.append_nil]
      exact q
    · rw [if_neg (by simpa using h0)]
      rw [if_neg h0] at q
      refine w_len (by rw [hall]; omega) ?_
      have ec : ((TL.numL (x.natAbs / 10 ^ p) ++ fw p x.natAbs).length : Int) - (p : Int) = ((TL.numL (x.natAbs / 10 ^ p)).length : Int) := by rw [hall]; omega
      rw [ec]
      have hz : (S (TL.numL (x.natAbs / 10 ^ p) ++ fw p x.natAbs)).length ≤ sizeLine := by
        rw [S_length, hall]
        have := big_line
        omega
      refine ⟨hz, ?_⟩
      rw [C8.cutS_slice, SX.to_app _ _ rfl, ofS_dot]
      refine w_add (by simp; omega) ?_
      refine w_len (by rw [hall]; omega) ?_
      rw [ec]
      refine ⟨hz, ?_⟩
      rw [C8.cutS_slice, SX.from_app _ _ rfl]
      refine w_add (by rw [List.length_append, hf]; simp; omega) ?_
      refine w_add (by rw [List.length_append, List.length_append, hf]; simp; omega) ?_
      rw [List.append_assoc]
      exact q
  unfold figL at h
  by_cases hx : x < 0
  · show W.ite (decide (x < 0)) _ _ _ _
    simp only [W.ite]
    rw [if_pos (by simpa using hx), ofS_minus]
    rw [if_pos (by simpa using hx)] at h
    exact key [45] (by simp) h
  · show W.ite (decide (x < 0)) _ _ _ _
    simp only [W.ite]
    rw [if_neg (by simpa using hx), ofS_nil]
    rw [if_neg (by simpa using hx)] at h
    exact key [] (by simp) h
/-- ten to the p -/
theorem fold_ten (xs : List Int) (s : Int) : xs.foldl (fun s _ => s * 10) s = s * 10 ^ xs.length := by
  induction xs generalizing s with
  | nil => simp
  | cons x xs ih => rw [List.foldl_cons, ih, List.length_cons, Int.pow_succ, Int.mul_assoc, Int.mul_comm 10]
theorem rg_len (p : Nat) : (rgL 0 (p : Int)).length = p := by
  unfold rgL
  rw [List.length_map, List.length_range]
  omega
theorem rg_ok {p : Nat} (h : p ≤ 1000) : RgOk 0 (p : Int) := by
  refine ⟨by omega, by omega, by omega, by omega, ?_⟩
  have := big_line
  omega
theorem scale_run {R : Type} {p : Nat} {N : Int → Prop} {Rr : R → Prop} {E : Str → Prop} (h : N ((10 : Int) ^ p)) :
    M.for (rgL 0 (p : Int)) (1 : Int) (fun s _ => fun N (_ : R → Prop) E => Wl.MulOk s 10 ∧ N (s * 10)) N Rr E := by
  refine for_fold (fun s _ => s * 10) (fun _ _ => True) trivial (fun s x xs _ => ⟨trivial, fun N q => ⟨mulOk_r (by decide) (by decide), q⟩⟩) ?_
  rw [fold_ten, rg_len, Int.one_mul]
  exact h
theorem pow_cast (p : Nat) : (10 : Int) ^ p = ((10 ^ p : Nat) : Int) := by rw [Int.natCast_pow]; rfl
/-- a value's digits and its tail, put together -/
theorem tail_text {sg : List Nat} {v p : Nat} {Q : Str → Prop} {E : Str → Prop} (hs : sg.length ≤ 1) (hv : v < 2 ^ 64) (hp : 0 < p) (hp9 : p ≤ 9) (h : Q (S (sg ++ (TL.numL (v / 10 ^ p) ++ 46 :: fw p v)))) :
    Wl.ModOk (v : Int) ((10 : Int) ^ p) ∧ strW (Int.fmod (v : Int) ((10 : Int) ^ p)) (fun v45 => DivOk (v : Int) ((10 : Int) ^ p) ∧ strW (Int.fdiv (v : Int) ((10 : Int) ^ p)) (fun v50 => addSW (S sg) v50 (fun v49 => addSW v49 (Str.ofString ".") (fun v48 => lenSW v45 (fun v52 => repSW (Str.ofString "0") ((p : Int) - v52) (fun v51 => addSW v48 v51 (fun v47 => addSW v47 v45 (fun v46 => Q v46) E) E) E) E) E) E) E) E := by
  have h10 : (0 : Nat) < 10 ^ p := Nat.pow_pos (by decide)
  have hb := pow20 hp9
  rw [pow_cast]
  have e1 : Int.fmod (v : Int) ((10 ^ p : Nat) : Int) = ((v % 10 ^ p : Nat) : Int) := by
    rw [Int.fmod_eq_emod_of_nonneg _ (by omega)]; rfl
  have e2 : Int.fdiv (v : Int) ((10 ^ p : Nat) : Int) = ((v / 10 ^ p : Nat) : Int) := by
    rw [Int.fdiv_eq_ediv_of_nonneg _ (by omega)]; rfl
  refine ⟨show ((10 ^ p : Nat) : Int) ≠ 0 by omega, ?_⟩
  rw [e1, e2]
  have hm : v % 10 ^ p < 10 ^ p := Nat.mod_lt _ h10
  refine w_str (by omega) ⟨divOk_r (by omega) (by omega) (by omega), ?_⟩
  have hd : v / 10 ^ p < 2 ^ 64 := Nat.lt_of_le_of_lt (Nat.div_le_self _ _) hv
  refine w_str hd ?_
  have l1 := numL_len64 hd
  have l2 : (TL.numL (v % 10 ^ p)).length ≤ p := TL.numL_len hp hm
  refine w_add (by omega) ?_
  rw [ofS_dot]
  refine w_add (by rw [List.length_append]; simp; omega) ?_
  refine w_len (by omega) ?_
  rw [ofS_zero]
  refine w_rep (by omega) (by omega) ?_
  refine w_add (by simp; omega) ?_
  refine w_add (by simp; omega) ?_
  have e3 : List.replicate ((p : Int) - ((TL.numL (v % 10 ^ p)).length : Int)).toNat 48 ++ TL.numL (v % 10 ^ p) = fw p v := by
    rw [← fw_mod p v, ← pad_fw hp hm]
    unfold padL
    congr 2
    omega
  have e4 : sg ++ TL.numL (v / 10 ^ p) ++ [46] ++ List.replicate ((p : Int) - ((TL.numL (v % 10 ^ p)).length : Int)).toNat 48 ++ TL.numL (v % 10 ^ p) = sg ++ (TL.numL (v / 10 ^ p) ++ 46 :: fw p v) := by
    rw [List.append_assoc (sg ++ TL.numL (v / 10 ^ p) ++ [46]), e3, List.append_assoc, List.append_assoc]
    rfl
  rw [e4]
  exact h

theorem fdiv_nat (a b : Nat) : Int.fdiv (a : Int) (b : Int) = ((a / b : Nat) : Int) := by
  rw [Int.fdiv_eq_ediv_of_nonneg _ (by omega)]; rfl
/-- the nearest: twice the value, half a step on -/
def near (a s b : Nat) : Nat := (2 * a * s + b) / (2 * b)
theorem mul_small {i j : Int} (h : (-(2 ^ 64) < i ∧ i < 2 ^ 64) ∨ (-(2 ^ 64) < j ∧ j < 2 ^ 64)) : Wl.MulOk i j := by
  rcases h with ⟨h1, h2⟩ | ⟨h1, h2⟩
  · exact mulOk_l h1 h2
  · exact mulOk_r h1 h2
theorem sp_rounded {a : Int} {b p : Nat} {Q : Str → Prop} {E : Str → Prop} (ha : a.natAbs ≤ 2 ^ 20) (hb : 0 < b) (hb2 : b ≤ 2 ^ 20) (hp : p ≤ 9)
    (h : Q (S (figL (decide (a < 0) && decide (0 < near a.natAbs (10 ^ p) b)) (near a.natAbs (10 ^ p) b) p))) : w_rounded_text ((a, (b : Int)), (p : Int)) Q E := by
  have h10 := pow20 hp
  have e1 : (2 : Int) * (absI a) * (10 : Int) ^ p + (b : Int) = ((2 * a.natAbs * 10 ^ p + b : Nat) : Int) := by
    rw [absI_eq, pow_cast]; simp
  have e2 : (2 : Int) * (b : Int) = ((2 * b : Nat) : Int) := by simp
  have hv : near a.natAbs (10 ^ p) b < 2 ^ 64 := by
    unfold near
    refine Nat.lt_of_le_of_lt (Nat.div_le_self _ _) ?_
    have h3 : 2 * a.natAbs * 10 ^ p ≤ 2 * 2 ^ 20 * 10 ^ 9 := Nat.mul_le_mul (by omega) h10
    omega
  have hR : RgOk 0 (p : Int) := rg_ok (by omega)
  simp only [w_rounded_text, M.bd, M.en, M.ite, W.ite, W.ret]
  rw [if_pos (by simp), if_neg (by simp; omega)]
  refine ⟨hR, scale_run ?_⟩
  refine ⟨mulOk_l (by decide) (by decide), mul_small (.inl ?_), mulOk_l (by decide) (by decide), divOk_r (by omega) (by omega) (by omega), ?_⟩
  · rw [absI_eq]; omega
  rw [e1, e2, fdiv_nat]
  show (if decide (a < 0) = true then _ else _)
  generalize hn : near a.natAbs (10 ^ p) b = v at *
  have hn' : (2 * a.natAbs * 10 ^ p + b) / (2 * b) = v := hn
  rw [hn']
  have key : ∀ sg : List Nat, sg.length ≤ 1 → Q (S (sg ++ (TL.numL (v / 10 ^ p) ++ (if p = 0 then [] else 46 :: fw p v)))) →
      (if decide ((p : Int) = 0) = true then strW (v : Int) (fun v43 => addSW (S sg) v43 (fun v42 => Q v42) E) E
        else Wl.ModOk (v : Int) ((10 : Int) ^ p) ∧ strW (Int.fmod (v : Int) ((10 : Int) ^ p)) (fun v45 => DivOk (v : Int) ((10 : Int) ^ p) ∧ strW (Int.fdiv (v : Int) ((10 : Int) ^ p)) (fun v50 => addSW (S sg) v50 (fun v49 => addSW v49 (Str.ofString ".") (fun v48 => lenSW v45 (fun v52 => repSW (Str.ofString "0") ((p : Int) - v52) (fun v51 => addSW v48 v51 (fun v47 => addSW v47 v45 (fun v46 => Q v46) E) E) E) E) E) E) E) E) := fun sg hs q => by
    by_cases h0 : p = 0
    · rw [if_pos (by simpa using h0)]
      subst h0
      refine w_str hv (w_add (by have := numL_len64 hv; omega) ?_)
      rw [if_pos rfl, List.append_nil, Nat.pow_zero, Nat.div_one] at q
      exact q
    · rw [if_neg (by simpa using h0)]
      rw [if_neg h0] at q
      exact tail_text hs hv (by omega) hp q
  unfold figL at h
  by_cases ha0 : a < 0
  · rw [if_pos (by simpa using ha0)]
    show (if decide ((0 : Int) < (v : Int)) = true then _ else _)
    by_cases hv0 : 0 < v
    · rw [if_pos (by simpa using hv0), ofS_minus]
      rw [if_pos (by simp [ha0, hv0])] at h
      exact key [45] (by simp) h
    · rw [if_neg (by simpa using hv0), ofS_nil]
      rw [if_neg (by simp [hv0])] at h
      exact key [] (by simp) h
  · rw [if_neg (by simpa using ha0)]
    show (if false = true then _ else _)
    rw [if_neg (by decide), ofS_nil]
    rw [if_neg (by simp [ha0])] at h
    exact key [] (by simp) h
/-- roots by halving -/
theorem sqrt_run {R : Type} {n : Int} (hn : n < 2 ^ 60) {N : Int × Int → Prop} {Rr : R → Prop} {E : Str → Prop} (h : ∀ r : Int, 0 ≤ r → r * r ≤ n → n < (r + 1) * (r + 1) → ∀ hi, N (r, hi)) :
    ∀ (k : Nat) (lo hi : Int), (hi - lo).toNat ≤ k → 0 ≤ lo → lo < hi → hi ≤ n + 1 → lo * lo ≤ n → n < hi * hi →
    M.whl (S := Int × Int) (fun s => fun Q E => Q (decide ((1 : Int) < s.2 - s.1))) (fun s => fun N R E => DivOk (s.1 + s.2) 2 ∧ (Wl.MulOk (Int.fdiv (s.1 + s.2) 2) (Int.fdiv (s.1 + s.2) 2) ∧
      (if decide (Int.fdiv (s.1 + s.2) 2 * Int.fdiv (s.1 + s.2) 2 ≤ n) = true then N (Int.fdiv (s.1 + s.2) 2, s.2) else N (s.1, Int.fdiv (s.1 + s.2) 2)))) (lo, hi) N Rr E
  | 0, lo, hi, hk, h0, h1, _, _, _ => by omega
  | k + 1, lo, hi, hk, h0, h1, h2, h3, h4 => by
    by_cases hd : 1 < hi - lo
    · have em : Int.fdiv (lo + hi) 2 = (lo + hi) / 2 := Int.fdiv_eq_ediv_of_nonneg _ (by decide)
      by_cases hm : (lo + hi) / 2 * ((lo + hi) / 2) ≤ n
      · refine whl_go ((lo + hi) / 2, hi) (fun Q q => by
          show Q (decide (1 < hi - lo))
          rw [decide_eq_true hd]; exact q) (fun N' q => ?_) (sqrt_run hn h k _ _ (by omega) (by omega) (by omega) h2 hm h4)
        show DivOk (lo + hi) 2 ∧ _
        refine ⟨divOk_r (by decide) (by decide) (by decide), ?_⟩
        show Wl.MulOk (Int.fdiv (lo + hi) 2) (Int.fdiv (lo + hi) 2) ∧ (if decide (Int.fdiv (lo + hi) 2 * Int.fdiv (lo + hi) 2 ≤ n) = true then N' (Int.fdiv (lo + hi) 2, hi) else _)
        rw [em, if_pos (by simpa using hm)]
        exact ⟨mulOk_l (by omega) (by omega), q⟩
      · refine whl_go (lo, (lo + hi) / 2) (fun Q q => by
          show Q (decide (1 < hi - lo))
          rw [decide_eq_true hd]; exact q) (fun N' q => ?_) (sqrt_run hn h k _ _ (by omega) (by omega) (by omega) (by omega) h3 (by omega))
        show DivOk (lo + hi) 2 ∧ _
        refine ⟨divOk_r (by decide) (by decide) (by decide), ?_⟩
        show Wl.MulOk (Int.fdiv (lo + hi) 2) (Int.fdiv (lo + hi) 2) ∧ (if decide (Int.fdiv (lo + hi) 2 * Int.fdiv (lo + hi) 2 ≤ n) = true then _ else N' (lo, Int.fdiv (lo + hi) 2))
        rw [em, if_neg (by simpa using hm)]
        exact ⟨mulOk_l (by omega) (by omega), q⟩
    · have e : hi = lo + 1 := by omega
      refine whl_stop (fun Q q => by
        show Q (decide (1 < hi - lo))
        rw [decide_eq_false hd]; exact q) (h lo h0 h3 (by rw [← e]; exact h4) hi)
theorem sp_sqrt {n : Int} {Q : Int → Prop} {E : Str → Prop} (h0 : 0 ≤ n) (hn : n < 2 ^ 60) (h : ∀ r : Int, 0 ≤ r → r * r ≤ n → n < (r + 1) * (r + 1) → Q r) : w_square_root n Q E := by
  simp only [w_square_root, M.bd, M.en, M.ite]
  rw [if_neg (by simpa using h0)]
  refine sqrt_run hn (fun r h1 h2 h3 _ => h r h1 h2 h3) (n + 1 - 0).toNat 0 (n + 1) (Nat.le_refl _) (by omega) (by omega) (by omega) (by omega) ?_
  have : (n + 1) * 1 ≤ (n + 1) * (n + 1) := Int.mul_le_mul_of_nonneg_left (by omega) (by omega)
  omega
theorem sp_root {a b p : Nat} {Q : Str → Prop} {E : Str → Prop} (ha : a ≤ 2 ^ 10) (hb : 0 < b) (hb2 : b < 2 ^ 64) (hp : p ≤ 6) (h : ∀ r : Nat, r * r ≤ a * 10 ^ p * 10 ^ p / b → a * 10 ^ p * 10 ^ p / b < (r + 1) * (r + 1) → Q (S (figL false r p))) :
    w_root_text (((a : Int), (b : Int)), (p : Int)) Q E := by
  have h10 : (10 : Nat) ^ p ≤ 10 ^ 6 := Nat.pow_le_pow_right (by decide) hp
  have hR : RgOk 0 (p : Int) := rg_ok (by omega)
  have hbig : a * 10 ^ p * 10 ^ p ≤ 2 ^ 10 * 10 ^ 6 * 10 ^ 6 := Nat.mul_le_mul (Nat.mul_le_mul ha h10) h10
  have hdiv : a * 10 ^ p * 10 ^ p / b ≤ a * 10 ^ p * 10 ^ p := Nat.div_le_self _ _
  simp only [w_root_text, M.bd, M.en, M.ite, W.ite, W.ret]
  rw [if_neg (by simp <;> omega), if_pos (by simp), if_neg (by simp <;> omega)]
  refine ⟨hR, scale_run ?_⟩
  have e1 : (a : Int) * (10 : Int) ^ p * (10 : Int) ^ p = ((a * 10 ^ p * 10 ^ p : Nat) : Int) := by rw [pow_cast]; simp
  have hs : (-(2 ^ 64) : Int) < (10 : Int) ^ p ∧ (10 : Int) ^ p < 2 ^ 64 := by
    rw [pow_cast]
    have h11 : ((10 ^ p : Nat) : Int) ≤ 1000000 := Int.ofNat_le.mpr h10
    have h12 : (0 : Int) ≤ ((10 ^ p : Nat) : Int) := Int.natCast_nonneg _
    generalize ((10 ^ p : Nat) : Int) = s at *
    omega
  refine ⟨mulOk_r hs.1 hs.2, mulOk_r hs.1 hs.2, divOk_r (by omega) (by omega) (by omega), ?_⟩
  show w_square_root (Int.fdiv ((a : Int) * (10 : Int) ^ p * (10 : Int) ^ p) (b : Int)) _ _
  rw [e1, fdiv_nat]
  refine sp_sqrt (Int.natCast_nonneg _) (by
    have h60 : a * 10 ^ p * 10 ^ p / b < 2 ^ 60 := Nat.lt_of_le_of_lt hdiv (Nat.lt_of_le_of_lt hbig (by decide))
    exact_mod_cast h60) fun r hr0 hr1 hr2 => ?_
  obtain ⟨m, rfl⟩ : ∃ m : Nat, r = m := ⟨r.toNat, by omega⟩
  have q := h m (by exact_mod_cast hr1) (by exact_mod_cast hr2)
  have hm : m < 2 ^ 64 := by
    have h3 : m * m ≤ a * 10 ^ p * 10 ^ p / b := by exact_mod_cast hr1
    have h4 : m ≤ m * m := Nat.le_mul_self m
    omega
  unfold figL at q
  by_cases h0 : p = 0
  · rw [if_pos (by simpa using h0)]
    subst h0
    refine w_str hm ?_
    simpa using q
  · rw [if_neg (by simpa using h0)]
    rw [if_neg h0] at q
    have z := tail_text (sg := []) (v := m) (p := p) (Q := Q) (E := E) (by simp) hm (by omega) (by omega) (by simpa using q)
    obtain ⟨z1, z2, z3, z4⟩ := z.2.2
    have e : S [] ++ Str.ofString (toString (Int.fdiv (m : Int) ((10 : Int) ^ p))) = Str.ofString (toString (Int.fdiv (m : Int) ((10 : Int) ^ p))) := TL.ext_tl (by rw [TL.tl_append]; rfl)
    rw [e] at z4
    exact ⟨z.1, z.2.1, z1, z2, z4⟩
end K1
namespace K1
open PySem Wl
/-! ### 3. texts are read -/
theorem all_digits (l : List Nat) : (l.all fun c => decide (c ∈ Array.toList (Str.cps (Str.ofString "0123456789")))) = l.all fun c => decide (48 ≤ c ∧ c ≤ 57) := by
  rw [ofS_digits]
  congr 1
  funext c
  refine dec_iff ?_
  show c ∈ [48, 49, 50, 51, 52, 53, 54, 55, 56, 57] ↔ _
  simp only [List.mem_cons, List.not_mem_nil, or_false]
  omega
theorem sp_is_count {l : List Nat} {Q : Bool → Prop} {E : Str → Prop} (hl : l.length < 2 ^ 20) (h : Q (cnt l)) : w_is_count (S l) Q E := by
  simp only [w_is_count, W.ite, W.ret]
  refine w_len hl ?_
  rw [all_digits]
  unfold cnt at h
  by_cases h1 : 1 ≤ l.length
  · rw [if_pos (by rw [decide_eq_true_eq]; omega)]
    by_cases h2 : l.length ≤ 9
    · rw [if_pos (by rw [decide_eq_true_eq]; omega)]
      rw [decide_eq_true ⟨h1, h2⟩, Bool.true_and] at h
      exact h
    · rw [if_neg (by simp; omega)]
      rw [decide_eq_false (by omega), Bool.false_and] at h
      exact h
  · rw [if_neg (by simp; omega), if_neg (by decide)]
    rw [decide_eq_false (by omega), Bool.false_and] at h
    exact h
theorem starts_minus (l : List Nat) : Txt.startswith (S l) (S [45]) = decide (l.head? = some 45) := by
  unfold Txt.startswith
  rw [PySem.StrLaws.subAt_eq]
  cases l with
  | nil => rfl
  | cons c r =>
    show (decide (0 + 1 ≤ (S (c :: r)).length) && ([c] == [45])) = _
    rw [S_length, decide_eq_true (by simp), Bool.true_and]
    by_cases e : c = 45
    · subst e; rfl
    · rw [decide_eq_false (by simpa using e)]
      simpa using e
/-- what a text without its sign comes to: the top, the bottom -/
def bodyR (l : List Nat) : Option (Nat × Nat) :=
  if 46 ∈ l then
    (if cnt (l.takeWhile (· != 46)) && cnt (l.drop ((l.takeWhile (· != 46)).length + 1)) then some (NumText.digitsVal (l.takeWhile (· != 46)) * 10 ^ (l.drop ((l.takeWhile (· != 46)).length + 1)).length + NumText.digitsVal (l.drop ((l.takeWhile (· != 46)).length + 1)), 10 ^ (l.drop ((l.takeWhile (· != 46)).length + 1)).length) else none)
  else if 47 ∈ l then
    (if cnt (l.takeWhile (· != 47)) && cnt (l.drop ((l.takeWhile (· != 47)).length + 1)) && decide (NumText.digitsVal (l.drop ((l.takeWhile (· != 47)).length + 1)) ≠ 0) then some (NumText.digitsVal (l.takeWhile (· != 47)), NumText.digitsVal (l.drop ((l.takeWhile (· != 47)).length + 1))) else none)
  else if cnt l then some (NumText.digitsVal l, 1) else none
theorem tw_split {x : Nat} {l : List Nat} (h : x ∈ l) : ∃ a b, l = a ++ x :: b ∧ x ∉ a ∧ l.takeWhile (· != x) = a ∧ l.drop ((l.takeWhile (· != x)).length + 1) = b := by
  induction l with
  | nil => cases h
  | cons c l ih =>
    by_cases e : c = x
    · subst e
      refine ⟨[], l, rfl, by simp, ?_, ?_⟩
      · rw [List.takeWhile_cons, if_neg (by simp)]
      · rw [List.takeWhile_cons, if_neg (by simp)]; rfl
    · have h2 : x ∈ l := by
        rcases List.mem_cons.mp h with q | q
        · exact absurd q.symm e
        · exact q
      obtain ⟨a, b, h3, h4, h5, h6⟩ := ih h2
      have hc : (c != x) = true := by simpa using e
      refine ⟨c :: a, b, by rw [h3]; rfl, ?_, ?_, ?_⟩
      · intro q
        rcases List.mem_cons.mp q with q | q
        · exact e q.symm
        · exact h4 q
      · rw [List.takeWhile_cons, if_pos hc, h5]
      · rw [List.takeWhile_cons, if_pos hc]
        exact h6
theorem part_in {x : Nat} {a b : List Nat} (h : x ∉ a) : Txt.partition (S (a ++ x :: b)) (S [x]) = (S a, S [x], S b) :=
  SX.partition_some (by simp) (by rw [show a ++ x :: b = a ++ ([x] ++ b) from rfl, TL.par_part1 h]; rfl)
theorem part_out {x : Nat} {a : List Nat} (h : x ∉ a) : Txt.partition (S a) (S [x]) = (S a, S [], S []) := SX.partition_none (by simp) (TL.par_none1 h)
theorem w_part {l : List Nat} {x : Nat} {Q : Str × Str × Str → Prop} {E : Str → Prop} (hl : l.length < 2 ^ 20) (h : Q (Txt.partition (S l) (S [x]))) : partW (S l) (S [x]) Q E :=
  ⟨⟨rfl, by rw [S_length]; have := big_line; omega⟩, h⟩
theorem val_small {l : List Nat} (h : NumText.AllDigits l) : NumText.digitsVal l < 10 ^ l.length := by
  induction l with
  | nil => decide
  | cons d l ih =>
    have h1 : NumText.AllDigits l := fun c hc => h c (List.mem_cons_of_mem _ hc)
    have h2 := h d List.mem_cons_self
    have e := val_app [d] l
    rw [show [d] ++ l = d :: l from rfl] at e
    have h3 : NumText.digitsVal [d] = d - 48 := by show 0 * 10 + (d - 48) = _; omega
    rw [e, h3, List.length_cons, Nat.pow_succ]
    have := ih h1
    have h4 : (d - 48) * 10 ^ l.length ≤ 9 * 10 ^ l.length := Nat.mul_le_mul_right _ (by omega)
    omega
theorem val_nine {l : List Nat} (h : cnt l = true) : NumText.digitsVal l < 10 ^ 9 := by
  obtain ⟨h1, _, h3⟩ := cnt_digits h
  exact Nat.lt_of_lt_of_le (val_small h1) (Nat.pow_le_pow_right (by decide) h3)
/-- the sign as a number -/
def sgI (neg : Bool) : Int := if neg then -1 else 1
def readR (neg : Bool) (body : List Nat) : Option (Int × Int) := (bodyR body).map fun p => nf (sgI neg * (p.1 : Int)) (p.2 : Int)
theorem nf_one (x : Int) : nf x 1 = (x, 1) := nf_self (by decide) (by simp)
theorem sp_body {neg : Bool} {body : List Nat} (hl : body.length < 600) {R : Int × Int → Prop} {E : Str → Prop} (h1 : ∀ v, readR neg body = some v → R v) (h2 : readR neg body = none → E (Str.ofString "NumberError")) :
    M.for ([(Str.ofString "."), (Str.ofString "/")] : (List Str)) () (fun s91 => fun x92 : Str => (M.bd (fun (N : (Str × Str × Str) → Prop) (R : (Int × Int) → Prop) (E : Str → Prop) => partW (S body) x92 (fun v94 => N v94) E)
 (fun z93 => (M.bd (fun (N : Unit → Prop) (R : (Int × Int) → Prop) (E : Str → Prop) => M.ite (!decide (z93.2.1 = (Str.ofString ""))) (M.en (M.bd (fun (N : Unit → Prop) (R : (Int × Int) → Prop) (E : Str → Prop) => w_is_count (z93.1) (fun r99 => W.ite (!r99) (W.ret true) (fun Q E => w_is_count (z93.2.2) (fun r98 => Q (!r98)) E) (fun v97 => M.ite v97 (M.en (fun (N : Empty → Prop) (R : (Int × Int) → Prop) (E : Str → Prop) => E (Str.ofString "NumberError"))) (fun (N : Unit → Prop) (R : (Int × Int) → Prop) (E : Str → Prop) => N ()) N R E) E) E)
 (fun s96 => (M.bd (fun (N : Int → Prop) (R : (Int × Int) → Prop) (E : Str → Prop) => W.ite (decide (x92 = (Str.ofString "."))) (fun Q E => lenSW z93.2.2 (fun v104 => repSW (Str.ofString "0") v104 (fun v103 => addSW (Str.ofString "1") v103 (fun v102 => intSW v102 (fun v105 => Q v105) E) E) E) E) (fun Q E => intSW z93.2.2 (fun v106 => Q v106) E) (fun v101 => N v101) E)
 (fun z100 => (M.bd (fun (N : Int → Prop) (R : (Int × Int) → Prop) (E : Str → Prop) => W.ite (decide (x92 = (Str.ofString "."))) (fun Q E => intSW z93.1 (fun v109 => (Wl.MulOk v109 z100 ∧ intSW z93.2.2 (fun v110 => Q ((v109 * z100) + v110)) E)) E) (fun Q E => intSW z93.1 (fun v111 => Q v111) E) (fun v108 => N v108) E)
 (fun z107 => (fun (N : Empty → Prop) (R : (Int × Int) → Prop) (E : Str → Prop) => (Wl.MulOk (sgI neg) z107 ∧ w_part_of ((sgI neg * z107), z100) (fun r112 => R r112) E))))))))) (fun (N : Unit → Prop) (R : (Int × Int) → Prop) (E : Str → Prop) => N ()) N R E)
 (fun s95 => (fun (N : Unit → Prop) (R : (Int × Int) → Prop) (E : Str → Prop) => N ())))))) (fun _ => w_is_count (S body) (fun r114 => if (!r114) = true then E (Str.ofString "NumberError") else intSW (S body) (fun v115 => (Wl.MulOk (sgI neg) v115 ∧ R ((sgI neg * v115), (1 : Int)))) E) E) R E := by
  have hs : ∀ z, Wl.MulOk (sgI neg) z := fun z => by unfold sgI; split <;> exact mulOk_l (by decide) (by decide)
  simp only [M.for, M.bd, M.en, M.ite, W.ite, W.ret]
  rw [ofS_dot, ofS_slash, ofS_nil]
  refine w_part (by omega) ?_
  by_cases hd : 46 ∈ body
  · obtain ⟨a, b, e1, e2, e3, e4⟩ := tw_split hd
    have hr : readR neg body = if (cnt a && cnt b) = true then some (nf (sgI neg * ((NumText.digitsVal a * 10 ^ b.length + NumText.digitsVal b : Nat) : Int)) ((10 ^ b.length : Nat) : Int)) else none := by
      unfold readR bodyR
      rw [if_pos hd, e4, e3]
      split <;> rfl
    have hab : a.length + b.length < 600 := by
      have := congrArg List.length e1
      rw [List.length_append, List.length_cons] at this
      omega
    rw [show Txt.partition (S body) (S [46]) = (S a, S [46], S b) by rw [e1]; exact part_in e2]
    show (if (!decide (S [46] = S [])) = true then _ else _)
    rw [if_pos (by first | (rw [dec_S]; decide) | decide)]
    refine sp_is_count (by omega) ?_
    cases ha : cnt a with
    | false =>
      rw [if_pos (by decide), if_pos (by decide)]
      exact h2 (by rw [hr, ha]; rfl)
    | true =>
      rw [if_neg (by decide)]
      refine sp_is_count (by omega) ?_
      cases hb : cnt b with
      | false =>
        rw [if_pos (by decide)]
        exact h2 (by rw [hr, ha, hb]; rfl)
      | true =>
        rw [ha, hb] at hr
        rw [if_neg (by decide), if_pos (by first | (rw [dec_S]; decide) | decide)]
        obtain ⟨da, na, la⟩ := cnt_digits ha
        obtain ⟨db, nb, lb⟩ := cnt_digits hb
        refine w_len (by omega) ?_
        rw [ofS_zero]
        refine w_rep (by omega) (by omega) ?_
        rw [ofS_one]
        refine w_add (by simp; omega) ?_
        rw [Int.toNat_natCast, show [49] ++ List.replicate b.length 48 = 49 :: List.replicate b.length 48 from rfl]
        refine w_int (fun c hc => ?_) (by simp) (by simp; omega) ?_
        · rcases List.mem_cons.mp hc with q | q
          · omega
          · rw [List.eq_of_mem_replicate q]; omega
        rw [val_ten, if_pos (by first | (rw [dec_S]; decide) | decide)]
        refine w_int da na (by omega) ?_
        have hb10 : (10 : Nat) ^ b.length ≤ 10 ^ 9 := Nat.pow_le_pow_right (by decide) lb
        have hb0 : 0 < (10 : Nat) ^ b.length := Nat.pow_pos (by decide)
        refine ⟨mulOk_r (by omega) (by omega), w_int db nb (by omega) ⟨hs _, ?_⟩⟩
        refine sp_part (by omega) (by omega) (by omega) ?_
        have e5 : (NumText.digitsVal a : Int) * ((10 ^ b.length : Nat) : Int) + (NumText.digitsVal b : Int) = ((NumText.digitsVal a * 10 ^ b.length + NumText.digitsVal b : Nat) : Int) := by
          rw [Int.natCast_add, Int.natCast_mul]
        rw [e5]
        exact h1 _ hr
  · rw [part_out hd]
    show (if (!decide (S [] = S [])) = true then _ else _)
    rw [if_neg (by first | (rw [dec_S]; decide) | decide)]
    refine w_part (by omega) ?_
    by_cases hsl : 47 ∈ body
    · obtain ⟨a, b, e1, e2, e3, e4⟩ := tw_split hsl
      have hr : readR neg body = if (cnt a && cnt b && decide (NumText.digitsVal b ≠ 0)) = true then some (nf (sgI neg * (NumText.digitsVal a : Int)) (NumText.digitsVal b : Int)) else none := by
        unfold readR bodyR
        rw [if_neg hd, if_pos hsl, e4, e3]
        split <;> rfl
      have hab : a.length + b.length < 600 := by
        have := congrArg List.length e1
        rw [List.length_append, List.length_cons] at this
        omega
      rw [show Txt.partition (S body) (S [47]) = (S a, S [47], S b) by rw [e1]; exact part_in e2]
      show (if (!decide (S [47] = S [])) = true then _ else _)
      rw [if_pos (by first | (rw [dec_S]; decide) | decide)]
      refine sp_is_count (by omega) ?_
      cases ha : cnt a with
      | false =>
        rw [if_pos (by decide), if_pos (by decide)]
        exact h2 (by rw [hr, ha]; rfl)
      | true =>
        rw [if_neg (by decide)]
        refine sp_is_count (by omega) ?_
        cases hb : cnt b with
        | false =>
          rw [if_pos (by decide)]
          exact h2 (by rw [hr, ha, hb]; rfl)
        | true =>
          rw [ha, hb, Bool.true_and, Bool.true_and] at hr
          rw [if_neg (by decide), if_neg (by first | (rw [dec_S]; decide) | decide)]
          obtain ⟨da, na, la⟩ := cnt_digits ha
          obtain ⟨db, nb, lb⟩ := cnt_digits hb
          refine w_int db nb (by omega) ?_
          rw [if_neg (by first | (rw [dec_S]; decide) | decide)]
          refine w_int da na (by omega) ⟨hs _, ?_⟩
          have vb := val_nine hb
          by_cases h0 : NumText.digitsVal b = 0
          · rw [h0]
            exact sp_part0 (h2 (by rw [hr, h0]; rfl))
          · refine sp_part (by omega) (by omega) (by omega) ?_
            rw [decide_eq_true h0] at hr
            exact h1 _ hr
    · rw [part_out hsl]
      show (if (!decide (S [] = S [])) = true then _ else _)
      rw [if_neg (by first | (rw [dec_S]; decide) | decide)]
      have hr : readR neg body = if cnt body = true then some (nf (sgI neg * (NumText.digitsVal body : Int)) 1) else none := by
        unfold readR bodyR
        rw [if_neg hd, if_neg hsl]
        split <;> rfl
      refine sp_is_count (by omega) ?_
      cases hb : cnt body with
      | false =>
        rw [if_pos (by decide)]
        exact h2 (by rw [hr, hb]; rfl)
      | true =>
        rw [if_neg (by decide)]
        obtain ⟨db, nb, lb⟩ := cnt_digits hb
        refine w_int db nb (by omega) ⟨hs _, ?_⟩
        rw [hb] at hr
        have := h1 _ hr
        rw [nf_one] at this
        exact this
theorem w_cut1 {l : List Nat} {Q : Str → Prop} {E : Str → Prop} (hl : l.length < 2 ^ 20) (h : Q (S (l.drop 1))) : cutSW (S l) (some (1 : Int)) none Q E :=
  ⟨by rw [S_length]; have := big_line; omega, by rw [C8.cutS_slice, SX.slice_from (by decide)]; exact h⟩
/-- the whole text -/
def readL (l : List Nat) : Option (Int × Int) := if l.head? = some 45 then readR true (l.drop 1) else readR false l
theorem sp_read {l : List Nat} (hl : l.length < 600) {Q : Int × Int → Prop} {E : Str → Prop} (h1 : ∀ v, readL l = some v → Q v) (h2 : readL l = none → E (Str.ofString "NumberError")) : w_read_part (S l) Q E := by
  unfold readL at h1 h2
  simp only [w_read_part, M.bd, startsW, W.ite, W.ret, ofS_minus, starts_minus]
  by_cases hh : l.head? = some 45
  · rw [if_pos hh] at h1 h2
    rw [if_pos (by simpa using hh)]
    refine w_cut1 (by omega) ?_
    rw [if_pos (by simpa using hh)]
    exact sp_body (neg := true) (by rw [List.length_drop]; omega) h1 h2
  · rw [if_neg hh] at h1 h2
    rw [if_neg (by simpa using hh), if_neg (by simpa using hh)]
    exact sp_body (neg := false) (by omega) h1 h2
end K1
namespace K1
open PySem Wl
/-! ### 4. parts in order -/
def leP (p q : Int × Int) : Prop := p.1 * q.2 ≤ q.1 * p.2
abbrev BB (p : Int × Int) : Prop := Red p 100 24
theorem leP_trans {p q r : Int × Int} (hp : 0 < p.2) (hq : 0 < q.2) (hr : 0 < r.2) (h1 : leP p q) (h2 : leP q r) : leP p r := by
  unfold leP at *
  have a1 : p.1 * q.2 * r.2 ≤ q.1 * p.2 * r.2 := Int.mul_le_mul_of_nonneg_right h1 (by omega)
  have a2 : q.1 * r.2 * p.2 ≤ r.1 * q.2 * p.2 := Int.mul_le_mul_of_nonneg_right h2 (by omega)
  have e1 : q.1 * p.2 * r.2 = q.1 * r.2 * p.2 := by rw [Int.mul_assoc, Int.mul_comm p.2, ← Int.mul_assoc]
  have e2 : p.1 * q.2 * r.2 = p.1 * r.2 * q.2 := by rw [Int.mul_assoc, Int.mul_comm q.2, ← Int.mul_assoc]
  have e3 : r.1 * q.2 * p.2 = r.1 * p.2 * q.2 := by rw [Int.mul_assoc, Int.mul_comm q.2, ← Int.mul_assoc]
  have a3 : p.1 * r.2 * q.2 ≤ r.1 * p.2 * q.2 := by omega
  exact Int.le_of_mul_le_mul_right a3 hq
def keepP (x y : Int × Int) : Option (Int × Int) := if x.1 * y.2 < y.1 * x.2 then none else some y
theorem keep_split {x : Int × Int} (hx : 0 < x.2) : ∀ {s : List (Int × Int)}, (∀ y ∈ s, 0 < y.2) → s.Pairwise leP → (∀ y ∈ s.take (s.filterMap (keepP x)).length, leP y x) ∧ (∀ y ∈ s.drop (s.filterMap (keepP x)).length, leP x y)
  | [], _, _ => ⟨fun _ h => by simp at h, fun _ h => by simp at h⟩
  | y :: s, hp, hs => by
    have hy := hp y List.mem_cons_self
    have hp2 : ∀ z ∈ s, 0 < z.2 := fun z hz => hp z (List.mem_cons_of_mem _ hz)
    rw [List.pairwise_cons] at hs
    by_cases h : x.1 * y.2 < y.1 * x.2
    · have hn : s.filterMap (keepP x) = [] := by
        rw [List.filterMap_eq_nil_iff]
        intro z hz
        unfold keepP
        rw [if_pos]
        have h1 : leP x y := Int.le_of_lt h
        have h2 := hs.1 z hz
        refine Int.not_le.mp fun h3 => ?_
        have h4 : leP z x := h3
        have h5 : leP y x := leP_trans hy (hp2 z hz) hx h2 h4
        unfold leP at h5
        omega
      have e : (y :: s).filterMap (keepP x) = [] := by
        rw [List.filterMap_cons, hn]
        unfold keepP
        rw [if_pos h]
      rw [e]
      refine ⟨fun z hz => by simp at hz, fun z hz => ?_⟩
      have h1 : leP x y := Int.le_of_lt h
      rcases List.mem_cons.mp hz with q | q
      · rw [q]; exact h1
      · exact leP_trans hx hy (hp2 z q) h1 (hs.1 z q)
    · obtain ⟨i1, i2⟩ := keep_split hx hp2 hs.2
      have e : (y :: s).filterMap (keepP x) = y :: s.filterMap (keepP x) := by
        rw [List.filterMap_cons]
        unfold keepP
        rw [if_neg h]
      rw [e, List.length_cons]
      refine ⟨fun z hz => ?_, fun z hz => i2 z hz⟩
      rcases List.mem_cons.mp hz with q | q
      · rw [q]; exact Int.not_lt.mp h
      · exact i1 z q
theorem sp_order {rows : List (Int × Int)} (hr : ∀ p ∈ rows, BB p) (hl : rows.length ≤ 1000) {Q : List (Int × Int) → Prop} {E : Str → Prop} (h : ∀ ys : List (Int × Int), ys.Perm rows → ys.Pairwise leP → Q ys) : w_in_part_order rows Q E := by
  simp only [w_in_part_order, M.bd, W.ite, W.ret]
  have hbig := big_line
  refine for_inv (fun s rest => (s ++ rest).Perm rows ∧ s.Pairwise leP) ⟨List.Perm.refl _, List.Pairwise.nil⟩ (fun s x rest ⟨hp, hs⟩ N hN => ?_) (fun s ⟨hp, hs⟩ => h s (by rwa [List.append_nil] at hp) hs)
  have hm : ∀ y ∈ s ++ x :: rest, BB y := fun y hy => hr y (hp.mem_iff.mp hy)
  have hx : BB x := hm x (List.mem_append_right _ List.mem_cons_self)
  have hsm : ∀ y ∈ s, BB y := fun y hy => hm y (List.mem_append_left _ hy)
  have hlen : s.length < 2 ^ 20 := by
    have := hp.length_eq
    rw [List.length_append] at this
    omega
  refine fm_filter (keepP x) (fun y hy Q q => ?_) ?_
  · have by_ := hsm y hy
    have h1 := hx.top; have h2 := hx.bot; have h3 := hx.pos
    have h4 := by_.top; have h5 := by_.bot; have h6 := by_.pos
    simp only [w_is_below]
    refine ⟨mulOk_l (by omega) (by omega), mulOk_l (by omega) (by omega), ?_⟩
    unfold keepP at q
    by_cases hc : x.1 * y.2 < y.1 * x.2
    · rw [if_pos hc] at q
      rw [if_neg (by simpa using hc)]
      exact q
    · rw [if_neg hc] at q
      rw [if_pos (by simpa using hc)]
      exact q
  · have hk : (s.filterMap (keepP x)).length ≤ s.length := List.length_filterMap_le _ _
    refine ⟨⟨by omega, by omega, by omega⟩, hN _ ⟨?_, ?_⟩⟩
    · rw [Int.toNat_natCast]
      refine List.Perm.trans ?_ hp
      have e : s ++ x :: rest = (s.take (s.filterMap (keepP x)).length ++ s.drop (s.filterMap (keepP x)).length) ++ x :: rest := by rw [List.take_append_drop]
      rw [e]
      rw [List.append_assoc, List.append_assoc, List.append_assoc]
      refine List.Perm.append_left _ ?_
      rw [List.singleton_append]
      exact List.perm_middle.symm
    · rw [Int.toNat_natCast]
      obtain ⟨k1, k2⟩ := keep_split hx.pos (fun y hy => (hsm y hy).pos) hs
      rw [List.append_assoc, List.pairwise_append]
      have hs2 : (s.take (s.filterMap (keepP x)).length ++ s.drop (s.filterMap (keepP x)).length).Pairwise leP := by rw [List.take_append_drop]; exact hs
      rw [List.pairwise_append] at hs2
      refine ⟨hs2.1, ?_, fun y hy z hz => ?_⟩
      · rw [List.singleton_append, List.pairwise_cons]
        exact ⟨k2, hs2.2.1⟩
      · rw [List.singleton_append] at hz
        rcases List.mem_cons.mp hz with q | q
        · rw [q]; exact k1 y hy
        · exact hs2.2.2 y hy z q
theorem zip_adj {α : Type} {R : α → α → Prop} : ∀ {l : List α}, l.Pairwise R → ∀ p ∈ l.zip (l.drop 1), R p.1 p.2
  | [], _, p, h => by simp at h
  | [x], _, p, h => by simp at h
  | x :: y :: l, hl, p, h => by
    rw [List.pairwise_cons] at hl
    have h2 : p ∈ (x, y) :: (y :: l).zip l := h
    rcases List.mem_cons.mp h2 with q | q
    · rw [q]; exact hl.1 y List.mem_cons_self
    · exact zip_adj hl.2 p q
theorem lex_antisymm {p q : Int × Int} (h1 : lexLe p q) (h2 : lexLe q p) : p = q := by
  unfold lexLe at *
  exact Prod.ext (by omega) (by omega)
theorem sort_eq : ∀ {xs ys : List (Int × Int)}, xs.Perm ys → xs.Pairwise lexLe → ys.Pairwise lexLe → xs = ys
  | [], ys, hp, _, _ => by rw [List.nil_perm.mp hp]
  | x :: xs, ys, hp, h1, h2 => by
    cases ys with
    | nil => exact absurd hp.length_eq (by simp)
    | cons y ys =>
      have a1 := (List.pairwise_cons.mp h1)
      have a2 := (List.pairwise_cons.mp h2)
      have e : x = y := by
        have hx : x ∈ y :: ys := hp.mem_iff.mp List.mem_cons_self
        have hy : y ∈ x :: xs := hp.mem_iff.mpr List.mem_cons_self
        rcases List.mem_cons.mp hx with q | q
        · exact q
        · rcases List.mem_cons.mp hy with r | r
          · exact r.symm
          · exact lex_antisymm (a1.1 y r) (a2.1 x q)
      subst e
      rw [sort_eq ((List.perm_cons x).mp hp) a1.2 a2.2]
/-! ### 5. sums -/
def addP (s x : Int × Int) : Int × Int := nf (s.1 * x.2 + x.1 * s.2) (s.2 * x.2)
def Sm (i : Int) : Prop := -(2 ^ 64) < i ∧ i < 2 ^ 64
theorem sp_sum {p q : Int × Int} {Q : Int × Int → Prop} {E : Str → Prop} (h0 : p.2 * q.2 ≠ 0) (h1 : Sm (p.2 * q.2)) (h2 : Sm q.1) (h3 : Sm q.2) (h : Q (addP p q)) : w_sum_of_two (p, q) Q E :=
  ⟨mulOk_r h3.1 h3.2, mulOk_l h2.1 h2.2, mulOk_r h3.1 h3.2, sp_part h0 h1.1 h1.2 h⟩
theorem sp_less {p q : Int × Int} {Q : Int × Int → Prop} {E : Str → Prop} (h0 : p.2 * q.2 ≠ 0) (h1 : Sm (p.2 * q.2)) (h2 : Sm q.1) (h3 : Sm q.2) (h : Q (nf (p.1 * q.2 - q.1 * p.2) (p.2 * q.2))) : w_less_of (p, q) Q E :=
  ⟨mulOk_r h3.1 h3.2, mulOk_l h2.1 h2.2, mulOk_r h3.1 h3.2, sp_part h0 h1.1 h1.2 h⟩
theorem sp_times {p q : Int × Int} {Q : Int × Int → Prop} {E : Str → Prop} (h0 : p.2 * q.2 ≠ 0) (h1 : Sm (p.2 * q.2)) (h2 : Sm q.1) (h3 : Sm q.2) (h : Q (nf (p.1 * q.1) (p.2 * q.2))) : w_times_of (p, q) Q E :=
  ⟨mulOk_r h2.1 h2.2, mulOk_r h3.1 h3.2, sp_part h0 h1.1 h1.2 h⟩
theorem red_bd {p q : Int × Int} (hp : BB p) (hq : BB q) : 0 < p.2 * q.2 ∧ p.2 * q.2 ≤ 576 := by
  have h1 := hp.pos; have h2 := hp.bot; have h3 := hq.pos; have h4 := hq.bot
  refine ⟨Int.mul_pos h1 h3, ?_⟩
  have := Int.mul_le_mul h2 h4 (by omega) (by omega)
  omega
def fitP (s : Int × Int) (rest : List (Int × Int)) : Prop := 0 < s.2 ∧ s.2 * 24 ^ rest.length ≤ 24 ^ 8 ∧ ∀ p ∈ rest, BB p
theorem fit_step {s x : Int × Int} {rest : List (Int × Int)} (h : fitP s (x :: rest)) : 0 < s.2 * x.2 ∧ s.2 * x.2 < 2 ^ 60 ∧ fitP (addP s x) rest := by
  obtain ⟨h1, h2, h3⟩ := h
  have hx := h3 x List.mem_cons_self
  have hx1 := hx.pos; have hx2 := hx.bot
  have p1 : 0 < s.2 * x.2 := Int.mul_pos h1 hx1
  have e : s.2 * x.2 ≤ s.2 * 24 := Int.mul_le_mul_of_nonneg_left hx2 (by omega)
  have hpw : (0 : Int) < 24 ^ rest.length := Int.pow_pos (by decide)
  rw [List.length_cons, Int.pow_succ] at h2
  have e2 : s.2 * (24 ^ rest.length * 24) = s.2 * 24 * 24 ^ rest.length := by rw [Int.mul_comm (24 ^ rest.length), ← Int.mul_assoc]
  rw [e2] at h2
  have e3 : s.2 * 24 * 1 ≤ s.2 * 24 * 24 ^ rest.length := Int.mul_le_mul_of_nonneg_left (show (1 : Int) ≤ 24 ^ rest.length by omega) (by omega)
  have c8 : (24 : Int) ^ 8 = 110075314176 := by decide
  refine ⟨p1, by omega, ?_⟩
  have hr : Red (addP s x) ((s.1 * x.2 + x.1 * s.2).natAbs) (s.2 * x.2) := nf_red (by omega) (by omega) (by omega)
  refine ⟨hr.pos, ?_, fun p hp => h3 p (List.mem_cons_of_mem _ hp)⟩
  have b := hr.bot
  have e4 : (addP s x).2 * 24 ^ rest.length ≤ s.2 * 24 * 24 ^ rest.length := Int.mul_le_mul_of_nonneg_right (by omega) (by omega)
  omega
theorem sp_sum_parts {rows : List (Int × Int)} (hr : fitP (0, 1) rows) {Q : Int × Int → Prop} {E : Str → Prop} (h : Q (rows.foldl addP (0, 1))) : w_sum_parts rows Q E := by
  simp only [w_sum_parts, M.bd]
  refine for_fold addP fitP hr (fun s x rest hi => ?_) h
  obtain ⟨h1, h2, h3⟩ := fit_step hi
  have hx := hi.2.2 x List.mem_cons_self
  have t1 := hx.top; have t2 := hx.pos; have t3 := hx.bot
  exact ⟨h3, fun N q => sp_sum (by omega) ⟨by omega, by omega⟩ ⟨by omega, by omega⟩ ⟨by omega, by omega⟩ q⟩
theorem sp_sum_parts2 {rows : List (Int × Int)} (hr : fitP (0, 1) rows) {Q : Int × Int → Prop} {E : Str → Prop} (h : Q (rows.foldl addP (0, 1))) : w_sum_parts__2 rows Q E := sp_sum_parts hr h
end K1
namespace K1
open PySem Wl
/-! ### 6. the law's turns -/
theorem sp_drawn {Q : Int × Int → Prop} {E : Str → Prop} (h : ∀ p, BB p → Q p) : w_law_drawn () Q E := by
  refine ⟨by decide, by decide, fun r h1 h2 => ⟨by decide, by decide, fun s h3 h4 => sp_low (by omega) (by omega) (by omega) (h _ (nf_red (by omega) (by omega) (by omega)))⟩⟩
theorem ite_same {α : Type} [DecidableEq α] {x : α} {rest : W Bool} {K : Bool → Prop} {E : Str → Prop} (h : rest K E) : W.ite (!decide (x = x)) (W.ret true) rest K E := by
  unfold W.ite
  rw [if_neg (by simp)]
  exact h
theorem told_part {t b : Int} (hb : Sm b) {rest : W Bool} {K : Bool → Prop} {E : Str → Prop} (h : rest K E) :
    toldW (Str.ofString "NumberError") (fun (Q : (Int × Int) → Prop) (E : Str → Prop) => w_part_of (t, b) (fun r => Q r) E) (fun r => W.ite (decide (b = (0 : Int))) (fun Q E => Q none) (fun Q E => w_law_low (t, b) (fun r' => Q (some r')) E) (fun v => W.ite (!decide (r = v)) (W.ret true) rest K E) E) E := by
  show w_part_of (t, b) _ _
  by_cases h0 : b = 0
  · subst h0
    refine sp_part0 ⟨rfl, ?_⟩
    show W.ite (decide ((0 : Int) = 0)) _ _ _ _
    unfold W.ite
    rw [if_pos (by simp)]
    exact ite_same h
  · refine sp_part h0 hb.1 hb.2 ?_
    show W.ite (decide (b = 0)) _ _ _ _
    unfold W.ite
    rw [if_neg (by simpa using h0)]
    refine sp_low h0 hb.1 hb.2 ?_
    exact ite_same h
theorem told_div {p q : Int × Int} (hp : BB p) (hq : BB q) {rest : W Bool} {K : Bool → Prop} {E : Str → Prop} (h : rest K E) :
    toldW (Str.ofString "NumberError") (fun (Q : (Int × Int) → Prop) (E : Str → Prop) => w_divided (p, q) (fun r => Q r) E) (fun r => W.ite (decide (q.1 = (0 : Int))) (fun Q E => Q none) (fun Q E => (Wl.MulOk p.1 q.2 ∧ (Wl.MulOk p.2 q.1 ∧ w_law_low ((p.1 * q.2), (p.2 * q.1)) (fun r' => Q (some r')) E))) (fun v => W.ite (!decide (r = v)) (W.ret true) rest K E) E) E := by
  have h1 := hp.pos; have h2 := hp.bot; have h3 := hp.top; have h4 := hq.pos; have h5 := hq.bot; have h6 := hq.top
  have m1 : Wl.MulOk p.1 q.2 := mulOk_r (by omega) (by omega)
  have m2 : Wl.MulOk p.2 q.1 := mulOk_r (by omega) (by omega)
  refine ⟨m1, m2, ?_⟩
  by_cases h0 : q.1 = 0
  · show w_part_of (p.1 * q.2, p.2 * q.1) _ _
    have e : p.2 * q.1 = 0 := by rw [h0, Int.mul_zero]
    rw [e]
    refine sp_part0 ⟨rfl, ?_⟩
    show W.ite (decide (q.1 = 0)) _ _ _ _
    unfold W.ite
    rw [if_pos (by simpa using h0)]
    exact ite_same h
  · have hz : p.2 * q.1 ≠ 0 := Int.mul_ne_zero (by omega) h0
    have hs : -(2 ^ 64) < p.2 * q.1 ∧ p.2 * q.1 < 2 ^ 64 := by
      have e1 : p.2 * q.1 ≤ p.2 * 100 := Int.mul_le_mul_of_nonneg_left h6.2 (by omega)
      have e2 : p.2 * (-100) ≤ p.2 * q.1 := Int.mul_le_mul_of_nonneg_left h6.1 (by omega)
      omega
    refine sp_part hz hs.1 hs.2 ?_
    show W.ite (decide (q.1 = 0)) _ _ _ _
    unfold W.ite
    rw [if_neg (by simpa using h0)]
    refine ⟨m1, m2, sp_low hz hs.1 hs.2 ?_⟩
    exact ite_same h
theorem tens_at {m : Nat} (h : m < 5) : L2.atI ([(1 : Int), (10 : Int), (100 : Int), (1000 : Int), (10000 : Int)] : List Int) (m : Int) = some ((10 : Int) ^ m) := by
  match m, h with
  | 0, _ => rfl
  | 1, _ => rfl
  | 2, _ => rfl
  | 3, _ => rfl
  | 4, _ => rfl
/-- the nearest is among the two -/
theorem near_two {A s b : Nat} (hb : 0 < b) : near A s b = A * s / b ∨ near A s b = A * s / b + 1 := by
  unfold near
  have h1 := Nat.div_add_mod (A * s) b
  have h2 := Nat.mod_lt (A * s) hb
  generalize hq : A * s / b = q at *
  generalize A * s % b = r at *
  have e : 2 * A * s + b = 2 * b * q + (2 * r + b) := by
    rw [Nat.mul_assoc 2 A s, ← h1, Nat.mul_add, ← Nat.mul_assoc]
    omega
  rw [e]
  by_cases hc : 2 * r + b < 2 * b
  · left
    rw [Nat.mul_add_div (by omega), Nat.div_eq_of_lt hc]
    omega
  · right
    rw [Nat.mul_add_div (by omega)]
    have : (2 * r + b) / (2 * b) = 1 := by
      rw [Nat.div_eq_iff (by omega)]
      omega
    rw [this]
theorem near_iff {A s b x : Nat} (hb : 0 < b) : x = near A s b ↔ (2 * (x : Int) - 1) * b ≤ 2 * A * s ∧ (2 * (A : Int) * s < (2 * x + 1) * b) := by
  unfold near
  have e1 : (2 * (x : Int) - 1) * b = 2 * b * x - b := by rw [Int.sub_mul, Int.one_mul, Int.mul_comm 2 (x : Int), Int.mul_assoc, Int.mul_comm (x : Int)]
  have e2 : (2 * (x : Int) + 1) * b = 2 * b * x + b := by rw [Int.add_mul, Int.one_mul, Int.mul_comm 2 (x : Int), Int.mul_assoc, Int.mul_comm (x : Int)]
  rw [e1, e2]
  rw [eq_comm, Nat.div_eq_iff (by omega)]
  have c1 : (2 : Int) * A * s = ((2 * A * s : Nat) : Int) := by simp
  have c2 : (2 : Int) * b * x = ((x * (2 * b) : Nat) : Int) := by simp [Int.mul_comm]
  rw [c1, c2]
  generalize 2 * A * s = u
  generalize x * (2 * b) = v
  omega
def nearF (A s b : Int) (x : Int) : Option Int := if (2 * x - 1) * b ≤ 2 * A * s ∧ 2 * A * s < (2 * x + 1) * b then some x else none
theorem rg_two (q : Int) : rgL q (q + 2) = [q, q + 1] := by
  unfold rgL
  have : (q + 2 - q).toNat = 2 := by omega
  rw [this]
  show [q + ((0 : Nat) : Int), q + ((1 : Nat) : Int)] = _
  simp
theorem near_list {A s b : Nat} (hb : 0 < b) : (rgL (((A * s / b : Nat)) : Int) ((((A * s / b : Nat)) : Int) + 2)).filterMap (nearF A s b) = [((near A s b : Nat) : Int)] := by
  rw [rg_two]
  have f1 : ∀ x : Nat, nearF A s b (x : Int) = if x = near A s b then some (x : Int) else none := fun x => by
    unfold nearF
    by_cases h : x = near A s b
    · rw [if_pos h, if_pos ((near_iff hb).mp h)]
    · rw [if_neg h, if_neg (fun z => h ((near_iff hb).mpr z))]
  have e : (((A * s / b : Nat)) : Int) + 1 = ((A * s / b + 1 : Nat) : Int) := by simp
  rw [e]
  simp only [List.filterMap_cons, List.filterMap_nil, f1]
  rcases near_two (A := A) (s := s) hb with h | h
  · rw [if_pos h.symm, if_neg (by omega), h]
  · rw [if_neg (by omega), if_pos h.symm, h]
theorem root_one {r s v : Nat} (h1 : r * r ≤ v) (h2 : v < (r + 1) * (r + 1)) (h3 : s * s ≤ v) (h4 : v < (s + 1) * (s + 1)) : r = s := by
  rcases Nat.lt_trichotomy r s with h | h | h
  · have : (r + 1) * (r + 1) ≤ s * s := Nat.mul_le_mul h h
    omega
  · exact h
  · have : (s + 1) * (s + 1) ≤ r * r := Nat.mul_le_mul h h
    omega
/-! what is read of what was written -/
theorem not_mem_digits {l : List Nat} {c : Nat} (h : ∀ d ∈ l, 48 ≤ d ∧ d ≤ 57) (hc : c < 48 ∨ 57 < c) : c ∉ l := fun hm => by
  have := h c hm
  omega
theorem cnt_of {l : List Nat} (h : ∀ d ∈ l, 48 ≤ d ∧ d ≤ 57) (h1 : 1 ≤ l.length) (h2 : l.length ≤ 9) : cnt l = true := by
  unfold cnt
  rw [decide_eq_true ⟨h1, h2⟩, Bool.true_and, List.all_eq_true]
  intro c hc
  exact decide_eq_true (h c hc)
theorem numL_pos (n : Nat) : 1 ≤ (TL.numL n).length := List.length_pos_iff.mpr (TL.numL_ne n)
theorem numL_nine {n : Nat} (h : n < 10 ^ 9) : (TL.numL n).length ≤ 9 := TL.numL_len (by decide) h
theorem tw_app {a b : List Nat} {x : Nat} (h : x ∉ a) : (a ++ x :: b).takeWhile (· != x) = a ∧ (a ++ x :: b).drop (((a ++ x :: b).takeWhile (· != x)).length + 1) = b := by
  have e : (a ++ x :: b).takeWhile (· != x) = a := by
    rw [List.takeWhile_append_of_pos (fun c hc => by simp; intro e; exact h (e ▸ hc))]
    rw [List.takeWhile_cons, if_neg (by simp), List.append_nil]
  refine ⟨e, ?_⟩
  rw [e]
  have : (a ++ x :: b).drop (a.length + 1) = b := by
    rw [show a ++ x :: b = (a ++ [x]) ++ b by simp]
    exact List.drop_left' (by simp)
  exact this
theorem body_fig {n p : Nat} (hn : n < 10 ^ 9) (hp : p ≤ 9) : bodyR (TL.numL (n / 10 ^ p) ++ (if p = 0 then [] else 46 :: fw p n)) = some (n, 10 ^ p) := by
  have hd := TL.numL_digits (n / 10 ^ p)
  have hq : n / 10 ^ p < 10 ^ 9 := Nat.lt_of_le_of_lt (Nat.div_le_self _ _) hn
  by_cases h0 : p = 0
  · subst h0
    rw [if_pos rfl, List.append_nil, Nat.pow_zero, Nat.div_one]
    have hd := TL.numL_digits n
    unfold bodyR
    rw [if_neg (not_mem_digits hd (by decide)), if_neg (not_mem_digits hd (by decide)), if_pos (cnt_of hd (numL_pos n) (numL_nine hn)), TL.numL_val]
  · rw [if_neg h0]
    obtain ⟨e1, e2⟩ := tw_app (b := fw p n) (not_mem_digits (c := 46) hd (by decide))
    unfold bodyR
    rw [if_pos (by simp), e2, e1, cnt_of hd (numL_pos _) (numL_nine hq), cnt_of (fw_digits p n) (by rw [fw_len]; omega) (by rw [fw_len]; omega)]
    rw [if_pos (show (true && true) = true from rfl), fw_len, TL.numL_val, val_fw, Nat.mul_comm, Nat.div_add_mod]
theorem readL_sg {sg : Bool} {body : List Nat} (h : ∀ c, body.head? = some c → c ≠ 45) : readL ((if sg then [45] else []) ++ body) = readR sg body := by
  unfold readL
  cases sg with
  | true =>
    show (if (45 :: body).head? = some 45 then _ else _) = _
    rw [if_pos rfl]
    rfl
  | false =>
    show (if body.head? = some 45 then _ else readR false body) = _
    rw [if_neg (fun e => h 45 e rfl)]
theorem head_num (n : Nat) (r : List Nat) : ∀ c, (TL.numL n ++ r).head? = some c → c ≠ 45 := fun c hc => by
  cases h : TL.numL n with
  | nil => exact absurd h (TL.numL_ne n)
  | cons d l =>
    rw [h] at hc
    obtain rfl : d = c := Option.some.inj hc
    have := TL.numL_digits n d (by rw [h]; exact List.mem_cons_self)
    omega
theorem sg_abs (x : Int) : sgI (decide (x < 0)) * (x.natAbs : Int) = x := by
  unfold sgI
  by_cases h : x < 0
  · rw [if_pos (by simpa using h)]; omega
  · rw [if_neg (by simpa using h)]; omega
theorem read_fig {x : Int} {p : Nat} (hx : x.natAbs < 10 ^ 9) (hp : p ≤ 9) : readL (figL (decide (x < 0)) x.natAbs p) = some (nf x ((10 ^ p : Nat) : Int)) := by
  unfold figL
  rw [readL_sg (head_num _ _)]
  unfold readR
  rw [body_fig hx hp]
  show some (nf (sgI _ * (x.natAbs : Int)) _) = _
  rw [sg_abs]
theorem read_quot {p : Int × Int} (hp : BB p) : readL (intL p.1 ++ [47] ++ TL.numL p.2.toNat) = some p := by
  have h1 := hp.pos; have h2 := hp.bot; have h3 := hp.top
  have hd := TL.numL_digits p.1.natAbs
  have hd2 := TL.numL_digits p.2.toNat
  have e : intL p.1 ++ [47] ++ TL.numL p.2.toNat = (if decide (p.1 < 0) then [45] else []) ++ (TL.numL p.1.natAbs ++ 47 :: TL.numL p.2.toNat) := by
    unfold intL
    by_cases h : p.1 < 0
    · rw [if_pos h, if_pos (by simpa using h)]; simp
    · rw [if_neg h, if_neg (by simpa using h)]; simp
  rw [e, readL_sg (head_num _ _)]
  obtain ⟨e1, e2⟩ := tw_app (b := TL.numL p.2.toNat) (not_mem_digits (c := 47) hd (by decide))
  have hn : 46 ∉ TL.numL p.1.natAbs ++ 47 :: TL.numL p.2.toNat := by
    intro hm
    rcases List.mem_append.mp hm with q | q
    · exact not_mem_digits hd (by decide) q
    · rcases List.mem_cons.mp q with q | q
      · cases q
      · exact not_mem_digits hd2 (by decide) q
  unfold readR bodyR
  rw [if_neg hn, if_pos (by simp), e2, e1, cnt_of hd (numL_pos _) (numL_nine (by omega)), cnt_of hd2 (numL_pos _) (numL_nine (by omega)), TL.numL_val, TL.numL_val, show decide (p.2.toNat ≠ 0) = true from decide_eq_true (by omega)]
  rw [if_pos (show (true && true && true) = true from rfl)]
  show some (nf (sgI _ * (p.1.natAbs : Int)) (p.2.toNat : Int)) = _
  rw [sg_abs, Int.toNat_of_nonneg (by omega), nf_self h1 hp.one]
end K1
namespace K1
open PySem Wl
/-! ### 7. odd texts -/
def alpha : List Nat := [48, 49, 50, 51, 52, 53, 54, 55, 56, 57, 47, 46, 45]
theorem ofS_alpha : Str.ofString "0123456789/.-" = S alpha := by decide +kernel
def one1 (c : Nat) : Str := S [c]
theorem alpha_at {r : Int} (h0 : 0 ≤ r) (h1 : r < 13) : ∃ c, L2.atI alpha r = some c ∧ c ∈ alpha := by
  obtain ⟨n, rfl⟩ : ∃ n : Nat, r = n := ⟨r.toNat, by omega⟩
  have hn : n < alpha.length := by show n < 13; omega
  refine ⟨alpha[n], ?_, List.getElem_mem _⟩
  unfold L2.atI L2.ixN
  rw [if_pos (by omega), if_pos (by omega), Int.toNat_natCast]
  show alpha[n]? = _
  exact List.getElem?_eq_getElem hn
theorem texts_of {ys : List Str} (h : ∀ y ∈ ys, ∃ c ∈ alpha, y = S [c]) : ∃ cs : List Nat, ys = cs.map one1 ∧ ∀ c ∈ cs, c ∈ alpha := by
  induction ys with
  | nil => exact ⟨[], rfl, fun _ h => nomatch h⟩
  | cons y ys ih =>
    obtain ⟨c, hc, rfl⟩ := h y List.mem_cons_self
    obtain ⟨cs, rfl, h2⟩ := ih fun z hz => h z (List.mem_cons_of_mem _ hz)
    refine ⟨c :: cs, rfl, fun d hd => ?_⟩
    rcases List.mem_cons.mp hd with e | e
    · rw [e]; exact hc
    · exact h2 d e
theorem join_nil : ∀ ls : List (List Nat), TL.joinL [] ls = ls.flatten
  | [] => rfl
  | [p] => by show p = p ++ []; rw [List.append_nil]
  | p :: q :: r => by
    show p ++ ([] ++ TL.joinL [] (q :: r)) = p ++ (q :: r).flatten
    rw [join_nil (q :: r)]; rfl
theorem join_one (cs : List Nat) : Txt.join (S []) (cs.map one1) = S cs := by
  rw [TL.join_eq]
  apply TL.ext_tl
  rw [TL.tl_join, tlS, join_nil, List.map_map]
  show (cs.map fun c => [c]).flatten = cs
  induction cs with
  | nil => rfl
  | cons c cs ih => rw [List.map_cons, List.flatten_cons, ih]; rfl
theorem w_join {cs : List Nat} (hl : cs.length ≤ 100) {Q : Str → Prop} {E : Str → Prop} (h : Q (S cs)) : joinW (S []) (cs.map one1) Q E := by
  refine ⟨?_, by rw [join_one]; exact h⟩
  have e : ((cs.map one1).map (·.length)).sum = cs.length := by
    rw [List.map_map]
    clear hl h
    induction cs with
    | nil => rfl
    | cons c cs ih => rw [List.map_cons, List.sum_cons, ih, List.length_cons]; show (S [c]).length + _ = _; rw [S_length]; simp; omega
  rw [e, S_length]
  simp
  omega
theorem map_S_inj : ∀ {a b : List (List Nat)}, a.map S = b.map S → a = b
  | [], [], _ => rfl
  | [], _ :: _, h => by cases h
  | _ :: _, [], h => by cases h
  | x :: a, y :: b, h => by
    rw [List.map_cons, List.map_cons, List.cons.injEq] at h
    rw [S_inj h.1, map_S_inj h.2]
theorem dec_mS (a b : List (List Nat)) : decide (a.map S = b.map S) = decide (a = b) := dec_iff ⟨map_S_inj, fun h => by rw [h]⟩
def small (l : List Nat) : Prop := ∀ c ∈ l, c < 1000
theorem okS_of {l : List Nat} (h : small l) : okS (S l) := by
  unfold okS PyData.strOk
  rw [← Array.all_toList]
  exact List.all_eq_true.mpr fun c hc => decide_eq_true (Nat.lt_trans (h c hc) (by decide))
theorem okL_of {ls : List (List Nat)} (h : ∀ l ∈ ls, small l) : okL okS (ls.map S) := fun x hx => by
  obtain ⟨l, hl, rfl⟩ := List.mem_map.mp hx
  exact okS_of (h l hl)
theorem w_neL {a b : List (List Nat)} {Q : Bool → Prop} {E : Str → Prop} (ha : ∀ l ∈ a, small l) (hb : ∀ l ∈ b, small l) (h : Q (!decide (a = b))) : neXW (okL okS) (a.map S) (b.map S) Q E :=
  ⟨⟨okL_of ha, okL_of hb⟩, by rw [dec_mS]; exact h⟩
theorem w_eqL {a b : List (List Nat)} {Q : Bool → Prop} {E : Str → Prop} (ha : ∀ l ∈ a, small l) (hb : ∀ l ∈ b, small l) (h : Q (decide (a = b))) : eqXW (okL okS) (a.map S) (b.map S) Q E :=
  ⟨⟨okL_of ha, okL_of hb⟩, by rw [dec_mS]; exact h⟩
theorem w_ninL {x : List Nat} {b : List (List Nat)} {Q : Bool → Prop} {E : Str → Prop} (ha : small x) (hb : ∀ l ∈ b, small l) (h : Q (!decide (x ∈ b))) : ninXW okS (S x) (b.map S) Q E :=
  ⟨⟨okS_of ha, okL_of hb⟩, by
    have e : decide (S x ∈ b.map S) = decide (x ∈ b) := dec_iff ⟨fun hm => by
      obtain ⟨y, hy, e⟩ := List.mem_map.mp hm
      rw [← S_inj e]; exact hy, fun hm => List.mem_map_of_mem hm⟩
    show Q (!decide (S x ∈ b.map S))
    rw [e]; exact h⟩
def isDg (c : Nat) : Bool := decide (48 ≤ c ∧ c ≤ 57)
def markF (x : Str) : Option Str := if (TL.tl x).all isDg then none else some x
theorem marks_eq (l : List Nat) : (Wl.signs (S l)).filterMap markF = ((l.filter fun c => !isDg c).map fun c => [c]).map S := by
  unfold Wl.signs
  show (l.map fun c => S [c]).filterMap markF = _
  induction l with
  | nil => rfl
  | cons c l ih =>
    rw [List.map_cons, List.filterMap_cons, List.filter_cons]
    have e : markF (S [c]) = if isDg c then none else some (S [c]) := by
      unfold markF
      rw [tlS]
      show (if (isDg c && true) = true then _ else _) = _
      rw [Bool.and_true]
    rw [e]
    cases h : isDg c with
    | true => exact ih
    | false => exact congrArg (fun z => S [c] :: z) ih
theorem w_marks {l : List Nat} (hl : l.length < 2 ^ 20) {Q : List Str → Prop} {E : Str → Prop} (h : Q (((l.filter fun c => !isDg c).map fun c => [c]).map S)) :
    W.fm (Wl.signs (S l)) (fun x302 : Str => fun Q E => ninSW x302 (Str.ofString "0123456789") (fun v305 => W.ite v305 (fun Q E => Q (some x302)) (W.ret none) Q E) E) Q E := by
  refine fm_filter markF (fun x hx Q q => ?_) (by rw [marks_eq]; exact h)
  obtain ⟨c, hc, rfl⟩ := List.mem_map.mp hx
  refine ⟨c, rfl, ?_⟩
  rw [ofS_digits]
  have e1 : markF (⟨#[c]⟩ : Str) = if isDg c then none else some ⟨#[c]⟩ := by
    unfold markF
    show (if (isDg c && true) = true then _ else _) = _
    rw [Bool.and_true]
  rw [e1] at q
  have e2 : decide (c ∈ (S [48, 49, 50, 51, 52, 53, 54, 55, 56, 57]).cps.toList) = isDg c := dec_iff (by
    show c ∈ [48, 49, 50, 51, 52, 53, 54, 55, 56, 57] ↔ _
    simp only [List.mem_cons, List.not_mem_nil, or_false]
    omega)
  rw [e2]
  unfold W.ite W.ret
  cases h2 : isDg c with
  | true => rw [h2] at q; exact q
  | false => rw [h2] at q; exact q
theorem cnt_dg {l : List Nat} (hl : l.length ≤ 9) : cnt l = (decide (l ≠ []) && l.all isDg) := by
  unfold cnt
  have e : decide (1 ≤ l.length ∧ l.length ≤ 9) = decide (l ≠ []) := dec_iff (by
    rw [ne_eq, ← List.length_eq_zero_iff]; omega)
  rw [e]
  rfl
/-- where there is one sign that is no digit -/
theorem one_mark {l : List Nat} {c : Nat} (h : (l.filter fun c => !isDg c) = [c]) : ∃ u v, l = u ++ c :: v ∧ u.all isDg = true ∧ v.all isDg = true ∧ isDg c = false := by
  induction l with
  | nil => cases h
  | cons d l ih =>
    rw [List.filter_cons] at h
    cases hd : isDg d with
    | true =>
      rw [hd] at h
      obtain ⟨u, v, e, h1, h2, h3⟩ := ih h
      exact ⟨d :: u, v, by rw [e]; rfl, by rw [List.all_cons, hd, h1]; rfl, h2, h3⟩
    | false =>
      rw [hd] at h
      have h4 : d :: (l.filter fun c => !isDg c) = [c] := h
      rw [List.cons.injEq] at h4
      refine ⟨[], l, by rw [h4.1]; rfl, rfl, ?_, by rw [← h4.1]; exact hd⟩
      rw [List.all_eq_true]
      intro x hx
      have := List.filter_eq_nil_iff.mp h4.2 x hx
      simpa using this
theorem marks_app (a b : List Nat) (c : Nat) : ((a ++ c :: b).filter fun c => !isDg c) = (a.filter fun c => !isDg c) ++ ((c :: b).filter fun c => !isDg c) := by rw [List.filter_append]
theorem all_of_marks {l : List Nat} : (l.filter fun c => !isDg c) = [] ↔ l.all isDg = true := by
  rw [List.filter_eq_nil_iff, List.all_eq_true]
  simp
/-- two marks: no number -/
theorem two_marks {l : List Nat} {c d : Nat} {ms : List Nat} (hl : l.length ≤ 9) (h : (l.filter fun c => !isDg c) = c :: d :: ms) : bodyR l = none := by
  have key : ∀ x, isDg x = false → x ∈ l → (cnt (l.takeWhile (· != x)) && cnt (l.drop ((l.takeWhile (· != x)).length + 1))) = false := fun x hx hm => by
    obtain ⟨a, b, e1, e2, e3, e4⟩ := tw_split hm
    rw [e4, e3]
    have hla : a.length ≤ 9 ∧ b.length ≤ 9 := by
      have := congrArg List.length e1
      rw [List.length_append, List.length_cons] at this
      omega
    rw [cnt_dg hla.1, cnt_dg hla.2]
    have e5 : (a.filter fun c => !isDg c) ++ (x :: (b.filter fun c => !isDg c)) = c :: d :: ms := by
      rw [← h, e1, marks_app, List.filter_cons, hx]; rfl
    cases ha : a.all isDg with
    | false => simp
    | true =>
      cases hb : b.all isDg with
      | false => simp
      | true =>
        rw [all_of_marks.mpr ha, all_of_marks.mpr hb] at e5
        cases e5
  unfold bodyR
  by_cases h1 : 46 ∈ l
  · rw [if_pos h1, key 46 (by decide) h1]; rfl
  · rw [if_neg h1]
    by_cases h2 : 47 ∈ l
    · rw [if_pos h2, key 47 (by decide) h2]; rfl
    · rw [if_neg h2, cnt_dg hl]
      have : l.all isDg = false := by
        cases ha : l.all isDg with
        | false => rfl
        | true => rw [all_of_marks.mpr ha] at h; cases h
      rw [this]; simp
theorem no_marks {l : List Nat} (hl : l.length ≤ 9) (h : l.all isDg = true) : (bodyR l).isSome = decide (l ≠ []) := by
  have n : ∀ x, isDg x = false → x ∉ l := fun x hx hm => by
    have := List.all_eq_true.mp h x hm
    rw [hx] at this; cases this
  unfold bodyR
  rw [if_neg (n 46 (by decide)), if_neg (n 47 (by decide)), cnt_dg hl, h, Bool.and_true]
  cases decide (l ≠ []) <;> rfl
theorem minus_mark {u v : List Nat} (hl : (u ++ 45 :: v).length ≤ 9) (hu : u.all isDg = true) (hv : v.all isDg = true) : bodyR (u ++ 45 :: v) = none := by
  have n : ∀ x, isDg x = false → x ≠ 45 → x ∉ u ++ 45 :: v := fun x hx hne hm => by
    rcases List.mem_append.mp hm with q | q
    · have := List.all_eq_true.mp hu x q
      rw [hx] at this; cases this
    · rcases List.mem_cons.mp q with q | q
      · exact hne q
      · have := List.all_eq_true.mp hv x q
        rw [hx] at this; cases this
  unfold bodyR
  rw [if_neg (n 46 (by decide) (by decide)), if_neg (n 47 (by decide) (by decide)), cnt_dg hl, List.all_append, List.all_cons]
  rw [show isDg 45 = false from rfl]
  simp
theorem dg_not {u : List Nat} {x : Nat} (hu : u.all isDg = true) (hx : isDg x = false) : x ∉ u := fun hm => by
  have := List.all_eq_true.mp hu x hm
  rw [hx] at this; cases this
theorem dot_mark {u v : List Nat} (hl : (u ++ 46 :: v).length ≤ 9) (hu : u.all isDg = true) (hv : v.all isDg = true) : (bodyR (u ++ 46 :: v)).isSome = (decide (u ≠ []) && decide (v ≠ [])) := by
  obtain ⟨e1, e2⟩ := tw_app (b := v) (dg_not (x := 46) hu rfl)
  rw [List.length_append, List.length_cons] at hl
  unfold bodyR
  rw [if_pos (by simp), e2, e1, cnt_dg (by omega), cnt_dg (by omega), hu, hv, Bool.and_true, Bool.and_true]
  cases decide (u ≠ []) <;> cases decide (v ≠ []) <;> rfl
theorem slash_mark {u v : List Nat} (hl : (u ++ 47 :: v).length ≤ 9) (hu : u.all isDg = true) (hv : v.all isDg = true) : (bodyR (u ++ 47 :: v)).isSome = (decide (u ≠ []) && decide (v ≠ []) && decide (NumText.digitsVal v ≠ 0)) := by
  obtain ⟨e1, e2⟩ := tw_app (b := v) (dg_not (x := 47) hu rfl)
  rw [List.length_append, List.length_cons] at hl
  have n : 46 ∉ u ++ 47 :: v := fun hm => by
    rcases List.mem_append.mp hm with q | q
    · exact dg_not hu rfl q
    · rcases List.mem_cons.mp q with q | q
      · cases q
      · exact dg_not hv rfl q
  unfold bodyR
  rw [if_neg n, if_pos (by simp), e2, e1, cnt_dg (by omega), cnt_dg (by omega), hu, hv, Bool.and_true, Bool.and_true]
  cases decide (u ≠ []) <;> cases decide (v ≠ []) <;> cases decide (NumText.digitsVal v ≠ 0) <;> rfl
theorem split_one {u v : List Nat} {c : Nat} (h1 : c ∉ u) (h2 : c ∉ v) (hc : c < 256) : Txt.split (S (u ++ c :: v)) (S [c]) = [u, v].map S := by
  rw [SX.split_S (by simp) (by simp; exact hc), show u ++ c :: v = u ++ ([c] ++ v) from rfl, TL.spl_part1 h1, TL.spl_last1 h2]
  rfl
theorem cutL_one {α : Type} (l : List α) : cutL l (some (1 : Int)) none = l.drop 1 := by
  unfold cutL
  cases l with
  | nil => rfl
  | cons x l =>
    have e : HT.sIx (x :: l).length 0 (some 1) = 1 := by
      show HT.sIx (x :: l).length 0 (some ((1 : Nat) : Int)) = 1
      rw [HT.sIx_nat]
      simp
    rw [e]
    show ((x :: l).drop 1).take ((x :: l).length - 1) = _
    rw [List.take_of_length_le (by simp)]
theorem w_join0 {cs : List Nat} (hl : cs.length ≤ 100) {Q : Str → Prop} {E : Str → Prop} (h : Q (S cs)) : joinW (Str.ofString "") (cs.map one1) Q E := by
  rw [ofS_nil]; exact w_join hl h
theorem w_ix0 {α : Type} {x : α} {xs : List α} {Q : α → Prop} {E : Str → Prop} (h : Q x) : ixW (x :: xs) (0 : Int) Q E := ⟨x, by unfold L2.atI L2.ixN; rw [if_pos (by decide), if_pos (by simp <;> omega)]; rfl, h⟩
theorem w_ix1 {α : Type} {x y : α} {xs : List α} {Q : α → Prop} {E : Str → Prop} (h : Q y) : ixW (x :: y :: xs) (1 : Int) Q E := ⟨y, by unfold L2.atI L2.ixN; rw [if_pos (by decide), if_pos (by simp <;> omega)]; rfl, h⟩
theorem small_nil : small [] := fun _ h => nomatch h
theorem digits_all {v : List Nat} (h : v.all isDg = true) : NumText.AllDigits v := fun c hc => by simpa [isDg] using List.all_eq_true.mp h c hc
theorem w_and {c : Prop} [Decidable c] {rest : W Bool} {K : Bool → Prop} {E : Str → Prop} (hc : c) (h : rest K E) : W.ite (decide c) rest (W.ret false) K E := by
  unfold W.ite
  rw [if_pos (by simpa using hc)]
  exact h
theorem w_and0 {c : Prop} [Decidable c] {rest : W Bool} {K : Bool → Prop} {E : Str → Prop} (hc : ¬ c) (h : K false) : W.ite (decide c) rest (W.ret false) K E := by
  unfold W.ite
  rw [if_neg (by simpa using hc)]
  exact h
theorem nin_two (u v : List Nat) : (!decide (([] : List Nat) ∈ [u, v])) = (decide (u ≠ []) && decide (v ≠ [])) := by
  cases u <;> cases v <;> simp
theorem odd_run {body : List Nat} (hl : body.length ≤ 5) (ha : ∀ c ∈ body, c ∈ alpha) {K : Bool → Prop} (h : K (bodyR body).isSome) :
    (S body).length ≤ sizeLine ∧ W.fm (Wl.signs (S body)) (fun x302 : Str => fun Q E => ninSW x302 (Str.ofString "0123456789") (fun v305 => W.ite v305 (fun Q E => Q (some x302)) (W.ret none) Q E) E) (fun r303 => (neXW (okL okS)) r303 ([] : (List Str)) (fun v310 => W.ite v310 (fun Q E => ixW r303 (0 : Int) (fun v309 => splitW (S body) v309 (fun v308 => Q v308) E) E) (fun Q E => Q ([S body] : (List Str))) (fun z306 => W.ite (decide ((List.length r303 : Int) < (2 : Int))) (fun Q E => (neXW (okL okS)) r303 ([(Str.ofString "-")] : (List Str)) (fun v320 => W.ite v320 (fun Q E => (ninXW okS) (Str.ofString "") z306 (fun v319 => W.ite v319 (fun Q E => (eqXW (okL okS)) r303 ([(Str.ofString "/")] : (List Str)) (fun v318 => W.ite v318 (fun Q E => ixW z306 (1 : Int) (fun v316 => intSW v316 (fun v317 => Q (decide (v317 = (0 : Int)))) E) E) (W.ret false) (fun v315 => Q (!v315)) E) E) (W.ret false) (fun v314 => Q v314) E) E) (W.ret false) (fun v313 => Q v313) E) E) (W.ret false) (fun v312 => K v312) (fun _ => False)) (fun _ => False)) (fun _ => False)) (fun _ => False) := by
  have hbig := big_line
  have hs : small body := fun c hc => by
    have : ∀ d ∈ alpha, d < 1000 := by decide
    exact this c (ha c hc)
  refine ⟨by rw [S_length]; omega, w_marks (by omega) ?_⟩
  rw [ofS_minus, ofS_nil, ofS_slash]
  have hmk : ∀ c, c ∈ (body.filter fun c => !isDg c) → c < 1000 := fun c hc => hs c (List.mem_filter.mp hc).1
  generalize hm : (body.filter fun c => !isDg c) = marks at *
  have hms : ∀ l ∈ marks.map (fun c => [c]), small l := fun l hl => by
    obtain ⟨c, hc, rfl⟩ := List.mem_map.mp hl
    intro d hd
    rw [List.mem_singleton.mp hd]
    exact hmk c hc
  refine w_neL (b := []) hms (fun _ h => nomatch h) ?_
  match marks, hm, hmk, hms with
  | [], hm, _, _ =>
    have hd := all_of_marks.mp hm
    rw [no_marks (by omega) hd] at h
    show (if (!decide (([] : List (List Nat)) = [])) = true then _ else _)
    rw [if_neg (by decide)]
    show (if decide (((0 : Nat) : Int) < 2) = true then _ else _)
    rw [if_pos (by decide)]
    refine w_neL (a := []) (b := [[45]]) (fun _ h => nomatch h) (by intro l hl; rw [List.mem_singleton.mp hl]; intro c hc; rw [List.mem_singleton.mp hc]; decide) ?_
    show (if (!decide (([] : List (List Nat)) = [[45]])) = true then _ else _)
    rw [if_pos (by decide)]
    refine w_ninL (x := []) (b := [body]) small_nil (by intro l hl; rw [List.mem_singleton.mp hl]; exact hs) ?_
    have e : (!decide (([] : List Nat) ∈ [body])) = decide (body ≠ []) := by
      by_cases hb : body = []
      · rw [hb]; rfl
      · rw [decide_eq_true hb]
        have : ¬ ([] : List Nat) ∈ [body] := fun hm => hb (List.mem_singleton.mp hm).symm
        rw [decide_eq_false this]; rfl
    rw [e]
    cases hb : decide (body ≠ []) with
    | false =>
      rw [hb] at h
      exact h
    | true =>
      rw [hb] at h
      refine w_eqL (a := []) (b := [[47]]) (fun _ h => nomatch h) (by intro l hl; rw [List.mem_singleton.mp hl]; intro c hc; rw [List.mem_singleton.mp hc]; decide) ?_
      exact h
  | [c], hm, hmk, hms =>
    obtain ⟨u, v, rfl, hu, hv, hc⟩ := one_mark hm
    have hcl := hmk c List.mem_cons_self
    have hcu := dg_not hu hc
    have hcv := dg_not hv hc
    have hsu : small u := fun d hd => hs d (List.mem_append_left _ hd)
    have hsv : small v := fun d hd => hs d (List.mem_append_right _ (List.mem_cons_of_mem _ hd))
    have hl2 := hl
    rw [List.length_append, List.length_cons] at hl2
    have hc3 : c = 45 ∨ c = 46 ∨ c = 47 := by
      have h1 := ha c (List.mem_append_right _ List.mem_cons_self)
      have h2 : ∀ d ∈ alpha, isDg d = false → d = 45 ∨ d = 46 ∨ d = 47 := by decide
      exact h2 c h1 hc
    have sm1 : ∀ l ∈ [[c]], small l := by
      intro l hl; rw [List.mem_singleton.mp hl]; intro d hd; rw [List.mem_singleton.mp hd]; omega
    show (if (!decide ([[c]] = ([] : List (List Nat)))) = true then _ else _)
    rw [if_pos (by rfl)]
    refine w_ix0 ⟨⟨rfl, by rw [S_length]; omega⟩, ?_⟩
    rw [split_one hcu hcv (by omega)]
    refine w_and (c := (List.length ([[c]].map S) : Int) < 2) (by rw [List.length_map, List.length_singleton]; decide) ?_
    refine w_neL (a := [[c]]) (b := [[45]]) sm1 (by intro l hl; rw [List.mem_singleton.mp hl]; intro c hc; rw [List.mem_singleton.mp hc]; decide) ?_
    rcases hc3 with rfl | rfl | rfl
    · rw [minus_mark (by omega) hu hv] at h
      exact h
    · rw [dot_mark (by omega) hu hv] at h
      show (if (!decide ([[46]] = [[45]])) = true then _ else _)
      rw [if_pos (by decide)]
      refine w_ninL (x := []) (b := [u, v]) small_nil (by intro l hl; rcases List.mem_cons.mp hl with e | e; rw [e]; exact hsu; rw [List.mem_singleton.mp e]; exact hsv) ?_
      rw [nin_two]
      cases hb : (decide (u ≠ []) && decide (v ≠ [])) with
      | false =>
        rw [hb] at h
        exact h
      | true =>
        rw [hb] at h
        refine w_eqL (a := [[46]]) (b := [[47]]) sm1 (by intro l hl; rw [List.mem_singleton.mp hl]; intro c hc; rw [List.mem_singleton.mp hc]; decide) ?_
        exact h
    · rw [slash_mark (by omega) hu hv] at h
      show (if (!decide ([[47]] = [[45]])) = true then _ else _)
      rw [if_pos (by decide)]
      refine w_ninL (x := []) (b := [u, v]) small_nil (by intro l hl; rcases List.mem_cons.mp hl with e | e; rw [e]; exact hsu; rw [List.mem_singleton.mp e]; exact hsv) ?_
      rw [nin_two]
      cases hb : (decide (u ≠ []) && decide (v ≠ [])) with
      | false =>
        rw [hb, Bool.false_and] at h
        exact h
      | true =>
        rw [hb, Bool.true_and] at h
        refine w_eqL (a := [[47]]) (b := [[47]]) sm1 (by intro l hl; rw [List.mem_singleton.mp hl]; intro c hc; rw [List.mem_singleton.mp hc]; decide) ?_
        show (if decide ([[47]] = [[47]]) = true then _ else _)
        rw [if_pos (by decide)]
        rw [Bool.and_eq_true, decide_eq_true_eq, decide_eq_true_eq] at hb
        refine w_ix1 (w_int (digits_all hv) hb.2 (by omega) ?_)
        have e : (!decide ((NumText.digitsVal v : Int) = 0)) = decide (NumText.digitsVal v ≠ 0) := by
          by_cases h0 : NumText.digitsVal v = 0
          · rw [h0]; rfl
          · rw [decide_eq_true h0, decide_eq_false (by omega)]; rfl
        show K (!decide ((NumText.digitsVal v : Int) = 0))
        rw [e]
        exact h
  | c :: d :: ms, hm, hmk, hms =>
    rw [two_marks (by omega) hm] at h
    show (if (!decide ([c] :: [d] :: ms.map (fun c => [c]) = ([] : List (List Nat)))) = true then _ else _)
    rw [if_pos (by rfl)]
    refine w_ix0 ⟨⟨rfl, by rw [S_length]; omega⟩, ?_⟩
    refine w_and0 (c := (List.length (((c :: d :: ms).map fun c => [c]).map S) : Int) < 2) (by rw [List.length_map, List.length_map, List.length_cons, List.length_cons]; omega) ?_
    exact h
end K1
namespace K1
open PySem Wl
theorem nat_of {x : Int} (h : 0 ≤ x) : ∃ n : Nat, x = n := ⟨x.toNat, by omega⟩
theorem w_ite_val {c : Prop} [Decidable c] {α : Type} {x y : α} {K : α → Prop} {E : Str → Prop} (h : ∀ z, z = (if c then x else y) → K z) : W.ite (decide c) (fun Q E => Q x) (fun Q E => Q y) K E := by
  unfold W.ite
  by_cases hc : c
  · rw [if_pos (by simpa using hc)]; exact h x (by rw [if_pos hc])
  · rw [if_neg (by simpa using hc)]; exact h y (by rw [if_neg hc])
theorem w_ite_case {α : Type} {b : Bool} {c : Prop} [Decidable c] {m1 m2 : W α} {K : α → Prop} {E : Str → Prop} (hb : b = decide c) (h1 : c → m1 K E) (h2 : ¬ c → m2 K E) : W.ite b m1 m2 K E := by
  unfold W.ite
  rw [hb]
  by_cases hc : c
  · rw [if_pos (by simpa using hc)]; exact h1 hc
  · rw [if_neg (by simpa using hc)]; exact h2 hc
theorem m_same {α S R : Type} [DecidableEq α] {x : α} {m1 : M S R} {m2 : M S R} {N : S → Prop} {Rr : R → Prop} {E : Str → Prop} (h : m2 N Rr E) : M.ite (!decide (x = x)) m1 m2 N Rr E := by
  unfold M.ite
  rw [if_neg (by simp)]
  exact h
theorem m_true {c : Prop} [Decidable c] {S R : Type} {m1 : M S R} {m2 : M S R} {N : S → Prop} {Rr : R → Prop} {E : Str → Prop} (hc : c) (h : m2 N Rr E) : M.ite (!decide c) m1 m2 N Rr E := by
  unfold M.ite
  rw [decide_eq_true hc, if_neg (by simp)]
  exact h
theorem figL_len {neg : Bool} {n p : Nat} (h : n < 2 ^ 64) (hp : p ≤ 9) : (figL neg n p).length < 100 := by
  unfold figL
  have h1 := numL_len64 (Nat.lt_of_le_of_lt (Nat.div_le_self n (10 ^ p)) h)
  have h2 := fw_len p n
  rw [List.length_append, List.length_append]
  have h3 : (if neg = true then [45] else []).length ≤ 1 := by split <;> simp
  have h4 : (if p = 0 then [] else 46 :: fw p n).length ≤ 10 := by
    split
    · simp
    · rw [List.length_cons, h2]; omega
  omega
theorem rg_ok2 {n : Nat} (h : n ≤ 2 ^ 40) : RgOk (n : Int) ((n : Int) + 2) := by
  have := big_line
  exact ⟨by omega, by omega, by omega, by omega, by omega⟩
theorem ite_nn {Q : Prop} {A : Prop} (h : Q) : (if (!true) = true then A else Q) := by rw [if_neg (by decide)]; exact h
theorem law_true (plain : w_law_plain () (fun b => b = true) (fun _ => False)) (ns : List Int) : w_law ns (fun b => b = true) (fun _ => False) := by
  simp only [w_law, M.bd]
  refine ⟨rg_ok (p := 6) (by decide), for_all (fun x _ N hN => ?_) ?_⟩
  · refine sp_drawn fun ⟨a, bI⟩ hp => sp_drawn fun q hq => ⟨by decide, by decide, fun r1 a1 a2 => ⟨by decide, by decide, fun r2 a3 a4 => ?_⟩⟩
    obtain ⟨b, rfl⟩ : ∃ b : Nat, bI = b := nat_of (Int.le_of_lt hp.pos)
    have p1 : 0 < (b : Int) := hp.pos
    have p2 : (b : Int) ≤ 24 := hp.bot
    have p3 : -100 ≤ a ∧ a ≤ 100 := hp.top
    have q1 := hq.pos; have q2 := hq.bot; have q3 := hq.top
    have bd : 0 < (b : Int) * q.2 ∧ (b : Int) * q.2 ≤ 576 := red_bd hp hq
    have sq1 : Sm q.1 := ⟨by omega, by omega⟩
    have sq2 : Sm q.2 := ⟨by omega, by omega⟩
    have sbd : Sm ((b : Int) * q.2) := ⟨by omega, by omega⟩
    have n0 : (b : Int) * q.2 ≠ 0 := by omega
    have m1 : Wl.MulOk a q.2 := mulOk_r (by omega) (by omega)
    have m2 : Wl.MulOk q.1 b := mulOk_r (by omega) (by omega)
    have m3 : Wl.MulOk b q.2 := mulOk_r (by omega) (by omega)
    have m4 : Wl.MulOk a q.1 := mulOk_r (by omega) (by omega)
    refine told_part ⟨by omega, by omega⟩ ?_
    refine sp_sum n0 sbd sq1 sq2 ⟨m1, m2, m3, sp_low n0 sbd.1 sbd.2 ?_⟩
    refine ite_same ?_
    refine sp_less n0 sbd sq1 sq2 ⟨m1, m2, m3, sp_low n0 sbd.1 sbd.2 ?_⟩
    show M.ite (!decide (_ = _)) _ _ _ _ _
    rw [decide_eq_true rfl]
    refine ite_nn ?_
    refine sp_times n0 sbd sq1 sq2 ⟨m4, m3, sp_low n0 sbd.1 sbd.2 ?_⟩
    refine ite_same ?_
    refine told_div hp hq ?_
    refine ⟨m1, m2, m1, m2, ?_⟩
    show M.ite (!decide (_ = _)) _ _ _ _ _
    rw [decide_eq_true rfl]
    refine ite_nn ⟨by decide, by decide, fun r3 a5 a6 => ?_⟩
    obtain ⟨m, rfl⟩ := nat_of a5
    have hm : m < 5 := by omega
    refine ⟨_, tens_at hm, ?_⟩
    have hb : 0 < b := by omega
    have hs10 : (10 : Nat) ^ m ≤ 10 ^ 4 := Nat.pow_le_pow_right (by decide) (by omega)
    have hs0 : 0 < (10 : Nat) ^ m := Nat.pow_pos (by decide)
    have hA : a.natAbs ≤ 100 := by omega
    have hAs : a.natAbs * 10 ^ m ≤ 100 * 10 ^ 4 := Nat.mul_le_mul hA hs10
    have hd1 : a.natAbs * 10 ^ m / b ≤ a.natAbs * 10 ^ m := Nat.div_le_self _ _
    have e1 : Int.fdiv ((a.natAbs : Int) * ((10 ^ m : Nat) : Int)) (b : Int) = ((a.natAbs * 10 ^ m / b : Nat) : Int) := by rw [← Int.natCast_mul, fdiv_nat]
    have hdb : ∀ z, DivOk z (b : Int) := fun z => divOk_r (by omega) (by omega) (by omega)
    have hmb : ∀ z, Wl.MulOk z (b : Int) := fun z => mulOk_r (by omega) (by omega)
    have hms : ∀ z, Wl.MulOk z ((10 ^ m : Nat) : Int) := fun z => mulOk_r (by omega) (by omega)
    have hm2 : ∀ z, Wl.MulOk 2 z := fun z => mulOk_l (by decide) (by decide)
    dsimp only
    simp only [maxN_eq, pow_cast]
    rw [e1]
    refine ⟨hms _, hdb _, hms _, hdb _, rg_ok2 (by omega), ?_⟩
    refine fm_filter (nearF (a.natAbs : Int) ((10 ^ m : Nat) : Int) (b : Int)) (fun x _ Q hq => ⟨hm2 _, hmb _, hm2 _, hms _, ?_⟩) ?_
    · unfold nearF at hq
      simp only [W.ite, W.ret]
      by_cases c1 : (2 * x - 1) * (b : Int) ≤ 2 * (a.natAbs : Int) * ((10 ^ m : Nat) : Int)
      · rw [if_pos (by simpa using c1)]
        refine ⟨hm2 _, hmb _, ?_⟩
        by_cases c2 : 2 * (a.natAbs : Int) * ((10 ^ m : Nat) : Int) < (2 * x + 1) * (b : Int)
        · rw [if_pos (by simpa using c2)]
          rw [if_pos ⟨c1, c2⟩] at hq
          exact hq
        · rw [if_neg (by simpa using c2)]
          rw [if_neg (fun z => c2 z.2)] at hq
          exact hq
      · rw [if_neg (by simpa using c1), if_neg (by decide)]
        rw [if_neg (fun z => c1 z.1)] at hq
        exact hq
    rw [near_list hb]
    refine ⟨_, rfl, ?_⟩
    dsimp only
    have hnear : near a.natAbs (10 ^ m) b ≤ 10 ^ 8 := by
      rcases near_two (A := a.natAbs) (s := 10 ^ m) hb with h | h <;> omega
    refine sp_rounded (by omega) hb (by omega) (by omega) ?_
    have hfig : ∀ z : Int, z = (if a < 0 then -((near a.natAbs (10 ^ m) b : Nat) : Int) else ((near a.natAbs (10 ^ m) b : Nat) : Int)) → figL (decide (z < 0)) z.natAbs m = figL (decide (a < 0) && decide (0 < near a.natAbs (10 ^ m) b)) (near a.natAbs (10 ^ m) b) m := fun z hz => by
      by_cases ha : a < 0
      · rw [if_pos ha] at hz
        rw [decide_eq_true ha, Bool.true_and]
        congr 1
        · exact dec_iff (by omega)
        · omega
      · rw [if_neg ha] at hz
        rw [decide_eq_false ha, Bool.false_and, decide_eq_false (by omega)]
        congr 1
        omega
    have hR : ∀ z : Int, z = (if a < 0 then -((near a.natAbs (10 ^ m) b : Nat) : Int) else ((near a.natAbs (10 ^ m) b : Nat) : Int)) → ∀ K : Str → Prop, K (S (figL (decide (a < 0) && decide (0 < near a.natAbs (10 ^ m) b)) (near a.natAbs (10 ^ m) b) m)) → w_law_figures (z, (m : Int)) K (fun _ => False) := fun z hz K hK => by
      refine sp_figures ?_ ?_ (by omega) (by rw [hfig z hz]; exact hK)
      · split at hz <;> omega
      · split at hz <;> omega
    refine w_ite_val fun z hz => hR z hz _ ?_
    refine m_same ?_
    simp only [M.bd]
    refine ⟨hms _, hms _, hdb _, ?_⟩
    have e2 : Int.fdiv ((a.natAbs : Int) * ((10 ^ m : Nat) : Int) * ((10 ^ m : Nat) : Int)) (b : Int) = ((a.natAbs * 10 ^ m * 10 ^ m / b : Nat) : Int) := by rw [← Int.natCast_mul, ← Int.natCast_mul, fdiv_nat]
    rw [e2]
    have hAss : a.natAbs * 10 ^ m * 10 ^ m ≤ 100 * 10 ^ 4 * 10 ^ 4 := Nat.mul_le_mul hAs hs10
    have hd2 : a.natAbs * 10 ^ m * 10 ^ m / b ≤ a.natAbs * 10 ^ m * 10 ^ m := Nat.div_le_self _ _
    have hd60 : a.natAbs * 10 ^ m * 10 ^ m / b < 2 ^ 60 := Nat.lt_of_le_of_lt hd2 (Nat.lt_of_le_of_lt hAss (by decide))
    refine sp_sqrt (Int.natCast_nonneg _) (by exact_mod_cast hd60) fun r0 h0 h1 h2 => ?_
    obtain ⟨r, rfl⟩ := nat_of h0
    have h1' : r * r ≤ a.natAbs * 10 ^ m * 10 ^ m / b := by exact_mod_cast h1
    have h2' : a.natAbs * 10 ^ m * 10 ^ m / b < (r + 1) * (r + 1) := by exact_mod_cast h2
    have hr60 : r < 2 ^ 60 := Nat.lt_of_le_of_lt (Nat.le_mul_self r) (Nat.lt_of_le_of_lt h1' hd60)
    have c1 : (r : Int) * r * b ≤ (a.natAbs : Int) * ((10 ^ m : Nat) : Int) * ((10 ^ m : Nat) : Int) := by
      have : r * r * b ≤ a.natAbs * 10 ^ m * 10 ^ m := (Nat.le_div_iff_mul_le hb).mp h1'
      exact_mod_cast this
    have c2 : (a.natAbs : Int) * ((10 ^ m : Nat) : Int) * ((10 ^ m : Nat) : Int) < ((r : Int) + 1) * ((r : Int) + 1) * b := by
      have : a.natAbs * 10 ^ m * 10 ^ m < (r + 1) * (r + 1) * b := (Nat.div_lt_iff_lt_mul hb).mp h2'
      exact_mod_cast this
    refine ⟨mulOk_l (by omega) (by omega), hmb _, hms _, hms _, w_and c1 ⟨mulOk_l (by omega) (by omega), hmb _, ?_⟩⟩
    refine m_true c2 ?_
    refine sp_root (by omega) hb (by omega) (by omega) fun r' k1 k2 => ?_
    obtain rfl := root_one k1 k2 h1' h2'
    refine sp_figures (by omega) (by omega) (by omega) ?_
    rw [decide_eq_false (show ¬ ((r' : Int) < 0) by omega), Int.natAbs_natCast]
    refine m_same ?_
    refine ⟨mulOk_r (by decide) (by decide), sp_figures (by omega) (by omega) (by omega) ?_⟩
    have hx9 : ((r1 - 100) * 7).natAbs < 10 ^ 9 := by omega
    have hrd := read_fig (x := (r1 - 100) * 7) (p := m) hx9 (by omega)
    refine sp_read (Nat.lt_trans (figL_len (by omega) (by omega)) (by decide)) (fun v hv => ?_) (fun hn => by rw [hrd] at hn; cases hn)
    rw [hrd] at hv
    obtain rfl := Option.some.inj hv
    refine ⟨mulOk_r (by decide) (by decide), sp_low (by omega) (by omega) (by omega) (ite_same ?_)⟩
    have hia : (intL a).length ≤ 30 := by
      unfold intL
      have := numL_nine (n := a.natAbs) (by omega)
      rw [List.length_append]
      split <;> simp <;> omega
    have hib := numL_nine (n := b) (by omega)
    refine w_strZ (by omega) (by omega) ?_
    rw [ofS_slash]
    refine w_add (by simp; omega) ?_
    refine w_str (by omega) ?_
    refine w_add (by simp; omega) ?_
    have hq := read_quot hp
    have hlq : (intL a ++ [47] ++ TL.numL b).length < 600 := by simp; omega
    refine sp_read hlq (fun v hv => ?_) (fun hn => ?_)
    · have hv2 : readL (intL a ++ [47] ++ TL.numL b) = some (a, (b : Int)) := hq
      rw [hv2] at hv
      obtain rfl := Option.some.inj hv
      exact m_same hN
    · have hv2 : readL (intL a ++ [47] ++ TL.numL b) = some (a, (b : Int)) := hq
      rw [hv2] at hn
      cases hn
  · refine ⟨by decide, by decide, fun n0 b1 b2 => ?_⟩
    obtain ⟨n, rfl⟩ := nat_of b1
    refine ⟨rg_ok (by omega), fm_all (P := BB) (fun x _ Q hQ => sp_drawn fun p hp => hQ p hp) fun rows hl hr => ?_⟩
    rw [rg_len] at hl
    have hfit : fitP (0, 1) rows := ⟨by decide, by
      rw [hl]
      have h24 : (24 : Nat) ^ n ≤ 24 ^ 8 := Nat.pow_le_pow_right (by decide) (by omega)
      have : (24 : Int) ^ n ≤ 24 ^ 8 := by exact_mod_cast h24
      show (1 : Int) * 24 ^ n ≤ 24 ^ 8
      omega, hr⟩
    refine for_fold addP fitP hfit (fun s x rest hi => ?_) ?_
    · obtain ⟨h1, h2, h3⟩ := fit_step hi
      have hx := hi.2.2 x List.mem_cons_self
      have t1 := hx.top; have t2 := hx.pos; have t3 := hx.bot
      exact ⟨h3, fun N q => ⟨mulOk_r (by omega) (by omega), mulOk_l (by omega) (by omega), mulOk_r (by omega) (by omega), sp_low (by omega) (by omega) (by omega) q⟩⟩
    refine sp_order hr (by omega) fun order ho hs => ?_
    refine sp_sum_parts hfit (ite_same ?_)
    refine fun ys hy1 hy2 zs hz1 hz2 => ?_
    obtain rfl : ys = zs := sort_eq ((hy1.trans ho).trans hz1.symm) hy2 hz2
    refine m_same ?_
    rw [cutL_one]
    refine fm_filter (fun _ => none) (fun pr hpr Q q => ?_) ?_
    · obtain ⟨x, y⟩ := pr
      have hxy : leP x y := zip_adj hs (x, y) hpr
      have hxm : BB x := hr x (ho.mem_iff.mp (List.of_mem_zip hpr).1)
      have t1 := hxm.top; have t2 := hxm.pos; have t3 := hxm.bot
      refine ⟨mulOk_l (i := x.1) (by omega) (by omega), mulOk_r (j := x.2) (by omega) (by omega), ?_⟩
      unfold leP at hxy
      unfold W.ite W.ret
      rw [if_neg (by simpa using hxy)]
      exact q
    rw [show ((order.zip (order.drop 1)).filterMap fun _ => (none : Option Int)) = [] from List.filterMap_eq_nil_iff.mpr fun _ _ => rfl]
    refine m_same ?_
    refine ⟨by decide, by decide, fun k0 b3 b4 => ?_⟩
    obtain ⟨k, rfl⟩ := nat_of b3
    refine ⟨rg_ok (by omega), fm_all (P := fun y => ∃ c ∈ alpha, y = S [c]) (fun x _ Q hQ => ⟨by decide, by decide, fun r c1 c2 => ?_⟩) fun ys hyl hyp => ?_⟩
    · rw [ofS_alpha]
      obtain ⟨c, hc, hca⟩ := alpha_at c1 c2
      exact ⟨by rw [S_length]; have := big_line; show 13 ≤ sizeLine; omega, c, hc, hQ _ ⟨c, hca, rfl⟩⟩
    rw [rg_len] at hyl
    obtain ⟨cs, rfl, hcs⟩ := texts_of hyp
    rw [List.length_map] at hyl
    have hcsm : small cs := fun c hc => by
      have : ∀ d ∈ alpha, d < 1000 := by decide
      exact this c (hcs c hc)
    have hbig := big_line
    refine w_join0 (by omega) ?_
    refine ⟨by rw [S_length]; omega, ?_⟩
    rw [C8.cutS_slice, SX.slice_to (by decide)]
    have hneg : decide (S (cs.take (1 : Int).toNat) = Str.ofString "-") = decide (cs.head? = some 45) := by
      rw [ofS_minus, dec_S]
      exact dec_iff (by
        show cs.take 1 = [45] ↔ _
        cases cs with
        | nil => simp
        | cons c cs => simp)
    have fin : ∀ body : List Nat, (readL cs).isSome = (bodyR body).isSome → 
        toldW (Str.ofString "NumberError") (fun (Q : (Int × Int) → Prop) (E : Str → Prop) => w_read_part (S cs) (fun r => Q r) E) (fun r322 => M.ite (!decide ((!decide (r322 = none)) = (bodyR body).isSome)) (M.en (fun (N : Empty → Prop) (R : Bool → Prop) (E : Str → Prop) => R false)) (fun (N : Unit → Prop) (R : Bool → Prop) (E : Str → Prop) => N ()) (fun s => w_law_plain () (fun r324 => r324 = true) fun x => False) (fun r324 => r324 = true) (fun _ => False)) (fun _ => False) := fun body he => by
      rw [← he]
      refine sp_read (Q := _) (E := _) (by omega) (fun v hv => ?_) (fun hn => ⟨rfl, ?_⟩)
      · rw [hv]
        exact m_true rfl plain
      · rw [hn]
        exact m_true rfl plain
    have hlen : cs.length ≤ 5 := by omega
    simp only [W.ret]
    refine w_ite_case (c := cs.head? = some 45) hneg (fun hh => ?_) (fun hh => ?_)
    · refine w_cut1 (by omega) ?_
      refine odd_run (by rw [List.length_drop]; omega) (fun c hc => hcs c (List.mem_of_mem_drop hc)) (fin _ ?_)
      unfold readL readR
      rw [if_pos hh]
      cases bodyR (cs.drop 1) <;> rfl
    · refine odd_run hlen hcs (fin _ ?_)
      unfold readL readR
      rw [if_neg hh]
      cases bodyR cs <;> rfl
end K1
namespace K1
open PySem Wl
/-! ### 8. the written cases -/
def insP (s : List (Int × Int)) (x : Int × Int) : List (Int × Int) := s.take (s.filterMap (keepP x)).length ++ [x] ++ s.drop (s.filterMap (keepP x)).length
def Sml (p : Int × Int) : Prop := (-100 ≤ p.1 ∧ p.1 ≤ 100) ∧ (0 < p.2 ∧ p.2 ≤ 24)
theorem sp_orderX {rows : List (Int × Int)} (hr : ∀ p ∈ rows, Sml p) (hl : rows.length ≤ 1000) {Q : List (Int × Int) → Prop} {E : Str → Prop} (h : Q (rows.foldl insP [])) : w_in_part_order rows Q E := by
  simp only [w_in_part_order, M.bd, W.ite, W.ret]
  have hbig := big_line
  refine for_fold insP (fun s rest => (∀ y ∈ s ++ rest, Sml y) ∧ s.length + rest.length ≤ 1000) ⟨fun y hy => hr y hy, by simpa using hl⟩ (fun s x rest ⟨hm, hn⟩ => ?_) h
  have hx : Sml x := hm x (List.mem_append_right _ List.mem_cons_self)
  have hk : (s.filterMap (keepP x)).length ≤ s.length := List.length_filterMap_le _ _
  rw [List.length_cons] at hn
  refine ⟨⟨fun y hy => ?_, ?_⟩, fun N hN => ?_⟩
  · rcases List.mem_append.mp hy with q | q
    · unfold insP at q
      rcases List.mem_append.mp q with q | q
      · rcases List.mem_append.mp q with q | q
        · exact hm y (List.mem_append_left _ (List.mem_of_mem_take q))
        · rw [List.mem_singleton.mp q]; exact hx
      · exact hm y (List.mem_append_left _ (List.mem_of_mem_drop q))
    · exact hm y (List.mem_append_right _ (List.mem_cons_of_mem _ q))
  · unfold insP
    rw [List.length_append, List.length_append, List.length_take, List.length_drop, List.length_singleton]
    omega
  refine fm_filter (keepP x) (fun y hy Q q => ?_) ?_
  · have by_ := hm y (List.mem_append_left _ hy)
    obtain ⟨⟨h1, h2⟩, h3, h4⟩ := hx
    obtain ⟨⟨h5, h6⟩, h7, h8⟩ := by_
    simp only [w_is_below]
    refine ⟨mulOk_l (by omega) (by omega), mulOk_l (by omega) (by omega), ?_⟩
    unfold keepP at q
    by_cases hc : x.1 * y.2 < y.1 * x.2
    · rw [if_pos hc] at q
      rw [if_neg (by simpa using hc)]
      exact q
    · rw [if_neg hc] at q
      rw [if_pos (by simpa using hc)]
      exact q
  · refine ⟨⟨by omega, by omega, by omega⟩, ?_⟩
    rw [Int.toNat_natCast]
    exact hN
theorem bad_read {s : Str} {l : List Nat} (hs : s = S l) (hl : l.length < 600) (h : readL l = none) : w_read_part s (fun r => False) (fun e => e = Str.ofString "NumberError") := by
  rw [hs]
  exact sp_read hl (fun v hv => by rw [h] at hv; cases hv) fun _ => rfl
theorem ok_read {s : Str} {l : List Nat} {v : Int × Int} {Q : Int × Int → Prop} {E : Str → Prop} (hs : s = S l) (hl : l.length < 600) (h : readL l = some v) (q : Q v) : w_read_part s Q E := by
  rw [hs]
  exact sp_read hl (fun u hu => by rw [h] at hu; obtain rfl := Option.some.inj hu; exact q) fun hn => by rw [h] at hn; cases hn
theorem ok_rounded {a : Int} {b p : Nat} {t : Str} {Q : Str → Prop} {E : Str → Prop} (ha : a.natAbs ≤ 2 ^ 20) (hb : 0 < b) (hb2 : b ≤ 2 ^ 20) (hp : p ≤ 9) (e : S (figL (decide (a < 0) && decide (0 < near a.natAbs (10 ^ p) b)) (near a.natAbs (10 ^ p) b) p) = t) (q : Q t) : w_rounded_text ((a, (b : Int)), (p : Int)) Q E :=
  sp_rounded ha hb hb2 hp (by rw [e]; exact q)
theorem plain_true : w_law_plain () (fun b => b = true) (fun _ => False) := by
  simp only [w_law_plain, M.bd]
  refine ⟨⟨sp_part0 rfl, ⟨mulOk_r (by decide) (by decide), mulOk_r (by decide) (by decide), sp_part0 rfl⟩, ?_, ?_, ?_, ?_, ?_, ?_, bad_read (l := []) (by decide +kernel) (by decide) (by decide +kernel), bad_read (l := [45]) (by decide +kernel) (by decide) (by decide +kernel),
    bad_read (l := [49, 46]) (by decide +kernel) (by decide) (by decide +kernel), bad_read (l := [46, 53]) (by decide +kernel) (by decide) (by decide +kernel), bad_read (l := [49, 47, 48]) (by decide +kernel) (by decide) (by decide +kernel), bad_read (l := [49, 47, 45, 50]) (by decide +kernel) (by decide) (by decide +kernel),
    bad_read (l := [49, 46, 50, 46, 51]) (by decide +kernel) (by decide) (by decide +kernel), bad_read (l := [49, 50, 51, 52, 53, 54, 55, 56, 57, 48]) (by decide +kernel) (by decide) (by decide +kernel), bad_read (l := [97]) (by decide +kernel) (by decide) (by decide +kernel), trivial⟩, ?_⟩
  · simp [w_rounded_text, M.bd, M.en, M.ite, W.ite, W.ret]
  · simp [w_rounded_text, M.bd, M.en, M.ite, W.ite, W.ret]
  · simp [w_square_root, M.bd, M.en, M.ite, W.ite, W.ret]
  · simp [w_root_text, M.bd, M.en, M.ite, W.ite, W.ret]
  · simp [w_root_text, M.bd, M.en, M.ite, W.ite, W.ret]
  · simp [w_root_text, M.bd, M.en, M.ite, W.ite, W.ret]
  refine ite_same (x := ([] : List Int)) ?_
  refine sp_part (t := 6) (b := -4) (by decide) (by decide) (by decide) ?_
  refine m_true (c := nf 6 (-4) = (-3, 2)) (by decide +kernel) ?_
  refine sp_sum (by decide) ⟨by decide, by decide⟩ ⟨by decide, by decide⟩ ⟨by decide, by decide⟩ ?_
  refine w_ite_case (c := ¬ (addP (1, 2) (1, 3) = (5, 6))) (by decide +kernel) (fun h => absurd (by decide +kernel) h) fun _ => ?_
  refine ⟨mulOk_r (by decide) (by decide), mulOk_r (by decide) (by decide), sp_part (t := 1 * 4) (b := 2 * 3) (by decide) (by decide) (by decide) ?_⟩
  refine m_true (c := nf (1 * 4) (2 * 3) = (2, 3)) (by decide +kernel) ?_
  refine sp_orderX (by
    intro p hp
    simp only [List.mem_cons, List.not_mem_nil, or_false] at hp
    rcases hp with rfl | rfl | rfl <;> exact ⟨⟨by decide, by decide⟩, by decide, by decide⟩) (by decide) ?_
  refine m_true (c := [((1 : Int), (2 : Int)), (1, 3), (2, 4)].foldl insP [] = [(1, 3), (1, 2), (2, 4)]) (by decide +kernel) ?_
  refine ok_rounded (a := -7) (b := 3) (p := 2) (t := Str.ofString "-2.33") (by decide) (by decide) (by decide) (by decide) (by decide +kernel) (w_and rfl ?_)
  refine ok_rounded (a := 1) (b := 2) (p := 0) (t := Str.ofString "1") (by decide) (by decide) (by decide) (by decide) (by decide +kernel) (w_and rfl ?_)
  refine ok_rounded (a := -1) (b := 3) (p := 0) (t := Str.ofString "0") (by decide) (by decide) (by decide) (by decide) (by decide +kernel) (w_and rfl ?_)
  refine sp_sqrt (by decide) (by decide) fun r h0 h1 h2 => ?_
  have hr : r = 4 := by
    obtain ⟨n, rfl⟩ := nat_of h0
    have h1' : n * n ≤ 17 := by exact_mod_cast h1
    have h2' : 17 < (n + 1) * (n + 1) := by exact_mod_cast h2
    have := root_one h1' h2' (s := 4) (by decide) (by decide)
    omega
  refine w_and hr ?_
  refine sp_root (a := 2) (b := 1) (p := 4) (by decide) (by decide) (by decide) (by decide) fun r' k1 k2 => ?_
  have hr' : r' = 14142 := root_one k1 k2 (by decide +kernel) (by decide +kernel)
  subst hr'
  refine w_and (c := S (figL false 14142 4) = Str.ofString "1.4142") (by decide +kernel) ?_
  refine ok_read (l := [45, 49, 46, 50, 53]) (v := (-5, 4)) (by decide +kernel) (by decide) (by decide +kernel) (w_and rfl ?_)
  refine ok_read (l := [51, 47, 54]) (v := (1, 2)) (by decide +kernel) (by decide) (by decide +kernel) (w_and rfl ?_)
  refine sp_common (t := 12) (b := 18) (w_and (by decide +kernel) ?_)
  rw [ofS_zero]
  refine sp_is_count (by decide) ?_
  rw [show cnt [48] = true from by decide]
  refine w_ite_case (c := True) rfl (fun _ => ?_) (fun h => absurd trivial h)
  rw [ofS_nil]
  refine sp_is_count (by decide) ?_
  rw [show cnt [] = false from by decide]
  refine w_ite_case (c := True) rfl (fun _ => ?_) (fun h => absurd trivial h)
  exact sp_sum_parts2 ⟨by decide, by decide, by intro p hp; cases hp⟩ (by decide +kernel)
theorem law_all (ns : List Int) : w_law ns (fun b => b = true) (fun _ => False) := law_true plain_true ns
end K1
namespace K1
open PySem PySem.Spec PyProof.Rows L2 Wl
section
variable {P : Program} {w : World} {K : PySem.W.Frag} {mg : Str → Option Value} {base : Heap} {ca : Str → Addr} {T : List (Addr × FO)}
/-! _law_dice, _law_rounds -/
abbrev s_law_dice : Stmt := topS 19
abbrev s_law_rounds : Stmt := topS 21
abbrev s_law_told : Stmt := topS 22
theorem sc_law_dice : FnScope [Str.ofString "cell"] [Str.ofString "cell"] (defScope s_law_dice) := C8.fnScope_by (by decide +kernel)
theorem sc_law_rounds : FnScope [Str.ofString "script", Str.ofString "most", Str.ofString "cells", Str.ofString "cell"] [Str.ofString "script", Str.ofString "most"] (defScope s_law_rounds) := C8.fnScope_by (by decide +kernel)
theorem ok_law_dice {f : Addr} {fd : FuncData} (F : DefAt K "_law_dice" s_law_dice [] f fd) (h_abs : mg "abs" = none) (h_int : mg "int" = none) : FnOk P w K mg base (L2.CX P w) 1 f fd [Str.ofString "cell"] spDice := by
  refine F.ok sc_law_dice (fun vs H Q E h => ?_) (fun cdv A outer s H vs Q E hr h => ⟨_, pb_wp, ?_⟩)
  · obtain ⟨n, F, rfl, _⟩ := h; rfl
  · obtain ⟨n, F0, rfl, fz, hq⟩ := h
    have st := sls_start (K := K) (T := []) (F := F0) (H := H) (H0 := H) (ar := [.d (iD n)]) (vs := [.int n]) (fun _ h => nomatch h) (.cons (.int n) .nil) 1
    refine (smz_if (C := ctD (P := P) (w := w) (K := K) (mg := mg) (base := base) (fun _ => 0) [] "_law_dice" sc_law_dice f cdv A outer s H E hr) (tm_chain op_lt op_lt o_IB o_IB (em_bin op_sub o_II em_int em_int) (em_var 0 iD n) em_int)
      (smz_retD (am_cons (em_callB call_abs c_abs (hm := h_abs) (hv := bt_abs) (ha := am_cons (em_var 0 iD n) am_nil)) (am_cons em_int (am_cons em_int am_nil))))
      (smz_retD (am_cons (em_var 0 iD n) (am_cons (em_bin op_add o_II em_int (em_bin op_modX o_IIC (em_callTy call_int1 c_intI (hm := h_int) (hv := bt_int) (ha := am_cons (em_var 0 iD n) am_nil)) em_int)) (am_cons (em_callTy call_int1 c_intB (hm := h_int) (hv := bt_int) (ha := am_cons (em_cmp op_ge o_IB (em_var 0 iD n) (em_bin op_pow o_IIC em_int em_int)) am_nil)) am_nil))))) F0 H _ F0 H _ (Grow.refl fz) st ?_ (fun v F' H' G z => hq v F' H' G z)
    have hm : ModOk n 1009 := by show (1009 : Int) ≠ 0; decide
    have hp : CPow 10 18 := by unfold CPow; decide
    show W.ite _ _ _ _ _
    cases decide ((0 : Int) - 10 < n) with
    | true =>
      show (if decide (n < 10) = true then True else (ModOk n 1009 ∧ (CPow 10 18 ∧ True)))
      split
      · trivial
      · exact ⟨hm, hp, trivial⟩
    | false => exact ⟨hm, hp, trivial⟩
theorem cut1_len (xs : List Int) : (cutL xs none (some 1)).length ≤ 1 := by
  unfold cutL
  rw [List.length_take]
  have : HT.sIx xs.length xs.length (some 1) - HT.sIx xs.length 0 none ≤ 1 := by
    unfold HT.sIx
    simp
    omega
  omega
theorem ok_law_rounds {f : Addr} {fd : FuncData} (F : DefAt K "_law_rounds" s_law_rounds [] f fd) (c_law_dice : CalS P w K mg base 1 "_law_dice" spDice) : FnOk P w K mg base (L2.CX P w) 2 f fd [Str.ofString "script", Str.ofString "most"] (spRnd K) := by
  refine F.ok sc_law_rounds (fun vs H Q E h => ?_) (fun cdv A outer s H vs Q E hr h => ⟨_, pb_wp, ?_⟩)
  · obtain ⟨a, xs, F, rfl, _⟩ := h; rfl
  · obtain ⟨a, xs, F0, rfl, fz, hd, hq⟩ := h
    have st := sls_start (K := K) (T := []) (F := F0) (H := H) (H0 := H) (ar := [.d (lD iD xs), .d (iD 1)]) (vs := [.ref a, .int 1]) (fun _ h => nomatch h) (.cons hd (.cons (.int 1) .nil)) 4
    have key : SMZ (ctD (P := P) (w := w) (K := K) (mg := mg) (base := base) (fun _ => 0) [] "_law_rounds" sc_law_rounds f cdv A outer s H E hr) [.d (lD iD xs), .d (iD 1), .un, .un] (defBody s_law_rounds) RndZ _ := (smz_cons (st_set 2 (em_sliceL (em_var 0 (lD iD) xs) om_none (om_some (em_var 1 iD 1)))) (fun z1 =>
      smz_cons (st_if (g := fun z : List Int => [.d (lD iD xs), .d (iD 1), .d (lD iD z), .un]) (tm_cmp (op_eqD (hu_ct _)) (o_eq (eqf_l eqf_int)) (em_var 2 (lD iD) z1) (em_lst (fc := lD iD) (γ := List Int) am_nil (fun b => []) (fun b => ⟨[], rfl, rfl, Nat.le_of_ble_eq_true rfl⟩)))
        (ss_cons (st_set 2 (em_lst (fc := lD iD) (γ := List Int) (am_cons em_int am_nil) (fun b => [b.1]) (fun b => ⟨[iD b.1], rfl, rfl, Nat.le_of_ble_eq_true rfl⟩))) (fun z => ss_done (T := List Int) z (.same (.same (.same (.same .nil))))))
        (ss_done (T := List Int) z1 (.same (.same (.same (.same .nil)))))) (fun z2 =>
        smz_retR (xs := z2) (own := [(Str.ofString "cell", 3)]) 2 3 c_law_dice (Nat.le_of_ble_eq_true rfl) rfl rfl (.inl rfl) (blkOk_by (by rfl)) (by decide) (Nat.le_of_ble_eq_true rfl) rfl (fun _ _ => .inl rfl) (.inr fun _ _ => rfl) (fun _ _ _ _ _ => rfl))))
    refine key F0 H _ F0 H _ (Grow.refl fz) st ?_ (fun v F' H' G z => hq v F' H' G z)
    show (if decide (cutL xs none (some 1) = []) = true then _ else _)
    have hl := cut1_len xs
    by_cases e : cutL xs none (some 1) = []
    · rw [if_pos (decide_eq_true e)]
      rfl
    · rw [if_neg (by rw [decide_eq_false e]; decide)]
      show (cutL xs none (some 1)).length = 1
      have : (cutL xs none (some 1)).length ≠ 0 := fun z => e (List.length_eq_zero_iff.mp z)
      omega
end
/-! ### the head -/
def dd (x : Str) (i : Nat) (dfl : List He.Dv) : He.DefD := ⟨(x, none), x, x, defArgs (topS i), defBody (topS i), defScope (topS i), dfl, []⟩
def fn : List He.DefD := [dd "common_whole" 4 [], dd "part_of" 5 [.int 1], dd "sum_of_two" 6 [], dd "less_of" 7 [], dd "times_of" 8 [], dd "divided" 9 [], dd "is_below" 10 [], dd "sum_parts" 11 [], dd "in_part_order" 12 [], dd "rounded_text" 13 [], dd "square_root" 14 [], dd "root_text" 15 [], dd "read_part" 16 [], dd "is_count" 17 [], dd "_law_dice" 19 [], dd "_law_roll" 20 [], dd "_law_rounds" 21 [], dd "_law_told" 22 [], dd "_law_low" 23 [], dd "_law_drawn" 24 [], dd "_law_figures" 25 [], dd "_law_plain" 26 [], dd "law" 27 []]
def fa : List He.Fa := [.glo "common_whole", .glo "part_of", .glo "sum_of_two", .glo "less_of", .glo "times_of", .glo "divided", .glo "is_below", .glo "sum_parts", .glo "in_part_order", .glo "rounded_text", .glo "square_root", .glo "root_text", .glo "read_part", .glo "is_count", .glo "_law_dice", .glo "_law_roll", .glo "_law_rounds", .glo "_law_told", .glo "_law_low", .glo "_law_drawn", .glo "_law_figures", .glo "_law_plain", .glo "law", .free "abs", .free "all", .free "int", .free "len", .free "max", .free "range", .free "sorted", .free "str", .free "tuple", .free "zip", .glo "NumberError", .exc "NumberError", .exm "NumberError" "NumberError" true]
def tf : List He.Defn := [("is_count", none), ("_law_plain", none), ("law", none)]
def exB (K : PySem.W.Frag) : Bool := decide ((tf.map fun p => (He.cT K p).2).Nodup)
abbrev R : PySem.W.OpenRow := PySem.W.OpenLaw.row PySem.Challenge.rw_statstack_k01_numbers_in_least_terms
abbrev hk : PySem.W.Hook := He.hookX 5 fa fn [] tf exB
def ob (s : PySem.W.SharedT) : He.AlX := He.obsX 5 fa fn [] tf exB (HandSHeadRun.getT s)
theorem ob_eq (s : PySem.W.SharedT) : ob s = hk.obs s.abs := He.obsX_eq (HandSHeadRun.getT_eq s)
def loose : List Str := ["StatError", "NumberError", "common_whole", "part_of", "sum_of_two", "less_of", "times_of", "divided", "is_below", "sum_parts", "in_part_order", "rounded_text", "square_root", "root_text", "read_part", "is_count", "_law_dice", "_law_roll", "_law_rounds", "_law_told", "_law_low", "_law_drawn", "_law_figures", "_law_plain"]
set_option maxHeartbeats 0 in
theorem run (w : World) : HandSHeadRun.RunEq R (PySem.W.view R.prog [27]) hk ob 2000 loose w := by
  intro os
  kernel_rfl
theorem told_mk {K : PySem.W.Frag} {mg : Str → Option Value} {f : Addr} {fd : FuncData} (F : DefAt K "_law_told" s_law_told [] f fd) (hm : mg "_law_told" = some (.ref f)) (he : mg "NumberError" = some (.ref (He.ga K "NumberError"))) (hx : PySem.W.exmOne K (.ref (He.ga K "NumberError")) (.ref (He.ga K "NumberError")) = some true) : Told K mg (fun x => He.ga K x) "_law_told" "NumberError" := by
  have hb : L2.Binds K fd [Str.ofString "what"] [] := FunD.bindsN F fun _ _ _ _ _ _ us hl => match us, hl with | [_], _ => rfl
  have kp := F.kp
  obtain ⟨oc, od, dV, kV, doc, pm, an, cdv, ct, osl, rfl, lk, hcd, _, _⟩ := F.ex
  exact ⟨f, "what", defArgs s_law_told, defScope s_law_told, 0, _, _, _, _, _, _, _, _, dV, kV, doc, pm, cdv, ct, oc, an, od, osl, [Str.ofString "what"], hm, kp, lk, hcd, hb, C8.fnScope_by (by decide +kernel), rfl, .inl rfl, by decide, by decide, rfl, he, by decide, hx, fun _ => rfl⟩
abbrev TT (K : PySem.W.Frag) : List (Addr × FO) := [((He.cT K ("is_count", none)).2, FO.tabg), ((He.cT K ("_law_plain", none)).2, FO.tab ((envOfC (Str.ofString "_law_plain") (defScope s_law_plain) 0 0 .none).qual ++ "<lambda>")), ((He.cT K ("law", none)).2, FO.tab ((envOfC (Str.ofString "law") (defScope s_law) 0 0 .none).qual ++ "<lambda>"))]
theorem facts {w : World} {K : PySem.W.Frag} {h : Heap} {mg : Str → Option Value} {f : Addr} (X : K.In h) (G : h.Ns mainGlobals mg) (hfa : mg ("law" : Str) = some (.ref f)) (c : He.SaysX fa fn [] tf exB w h K) (law_true : ∀ ns : List Int, w_law ns (fun b => b = true) (fun _ => False)) :
    LamX.LawAtS PySem.Challenge.rw_statstack_k01_numbers_in_least_terms w K (L2.CX (PySem.Challenge.rw_statstack_k01_numbers_in_least_terms).prog w) 7 63 "script" mg f h := by
  obtain ⟨fd_common_whole, F_common_whole⟩ := c.t.d.def_ 0 (d := dd "common_whole" 4 []) rfl
  obtain ⟨fd_part_of, F_part_of⟩ := c.t.d.def_ 1 (d := dd "part_of" 5 [.int 1]) rfl
  obtain ⟨fd_sum_of_two, F_sum_of_two⟩ := c.t.d.def_ 2 (d := dd "sum_of_two" 6 []) rfl
  obtain ⟨fd_less_of, F_less_of⟩ := c.t.d.def_ 3 (d := dd "less_of" 7 []) rfl
  obtain ⟨fd_times_of, F_times_of⟩ := c.t.d.def_ 4 (d := dd "times_of" 8 []) rfl
  obtain ⟨fd_divided, F_divided⟩ := c.t.d.def_ 5 (d := dd "divided" 9 []) rfl
  obtain ⟨fd_is_below, F_is_below⟩ := c.t.d.def_ 6 (d := dd "is_below" 10 []) rfl
  obtain ⟨fd_sum_parts, F_sum_parts⟩ := c.t.d.def_ 7 (d := dd "sum_parts" 11 []) rfl
  obtain ⟨fd_in_part_order, F_in_part_order⟩ := c.t.d.def_ 8 (d := dd "in_part_order" 12 []) rfl
  obtain ⟨fd_rounded_text, F_rounded_text⟩ := c.t.d.def_ 9 (d := dd "rounded_text" 13 []) rfl
  obtain ⟨fd_square_root, F_square_root⟩ := c.t.d.def_ 10 (d := dd "square_root" 14 []) rfl
  obtain ⟨fd_root_text, F_root_text⟩ := c.t.d.def_ 11 (d := dd "root_text" 15 []) rfl
  obtain ⟨fd_read_part, F_read_part⟩ := c.t.d.def_ 12 (d := dd "read_part" 16 []) rfl
  obtain ⟨fd_is_count, F_is_count⟩ := c.t.d.def_ 13 (d := dd "is_count" 17 []) rfl
  obtain ⟨fd_law_dice, F_law_dice⟩ := c.t.d.def_ 14 (d := dd "_law_dice" 19 []) rfl
  obtain ⟨fd_law_roll, F_law_roll⟩ := c.t.d.def_ 15 (d := dd "_law_roll" 20 []) rfl
  obtain ⟨fd_law_rounds, F_law_rounds⟩ := c.t.d.def_ 16 (d := dd "_law_rounds" 21 []) rfl
  obtain ⟨fd_law_told, F_law_told⟩ := c.t.d.def_ 17 (d := dd "_law_told" 22 []) rfl
  obtain ⟨fd_law_low, F_law_low⟩ := c.t.d.def_ 18 (d := dd "_law_low" 23 []) rfl
  obtain ⟨fd_law_drawn, F_law_drawn⟩ := c.t.d.def_ 19 (d := dd "_law_drawn" 24 []) rfl
  obtain ⟨fd_law_figures, F_law_figures⟩ := c.t.d.def_ 20 (d := dd "_law_figures" 25 []) rfl
  obtain ⟨fd_law_plain, F_law_plain⟩ := c.t.d.def_ 21 (d := dd "_law_plain" 26 []) rfl
  obtain ⟨fd_law, F_law⟩ := c.t.d.def_ 22 (d := dd "law" 27 []) rfl
  have g_common_whole : mg "common_whole" = some (.ref (He.ga K "common_whole")) := He.glo_ok X G (c.t.d.fact 0 (f := .glo "common_whole") rfl)
  have g_part_of : mg "part_of" = some (.ref (He.ga K "part_of")) := He.glo_ok X G (c.t.d.fact 1 (f := .glo "part_of") rfl)
  have g_sum_of_two : mg "sum_of_two" = some (.ref (He.ga K "sum_of_two")) := He.glo_ok X G (c.t.d.fact 2 (f := .glo "sum_of_two") rfl)
  have g_less_of : mg "less_of" = some (.ref (He.ga K "less_of")) := He.glo_ok X G (c.t.d.fact 3 (f := .glo "less_of") rfl)
  have g_times_of : mg "times_of" = some (.ref (He.ga K "times_of")) := He.glo_ok X G (c.t.d.fact 4 (f := .glo "times_of") rfl)
  have g_divided : mg "divided" = some (.ref (He.ga K "divided")) := He.glo_ok X G (c.t.d.fact 5 (f := .glo "divided") rfl)
  have g_is_below : mg "is_below" = some (.ref (He.ga K "is_below")) := He.glo_ok X G (c.t.d.fact 6 (f := .glo "is_below") rfl)
  have g_sum_parts : mg "sum_parts" = some (.ref (He.ga K "sum_parts")) := He.glo_ok X G (c.t.d.fact 7 (f := .glo "sum_parts") rfl)
  have g_in_part_order : mg "in_part_order" = some (.ref (He.ga K "in_part_order")) := He.glo_ok X G (c.t.d.fact 8 (f := .glo "in_part_order") rfl)
  have g_rounded_text : mg "rounded_text" = some (.ref (He.ga K "rounded_text")) := He.glo_ok X G (c.t.d.fact 9 (f := .glo "rounded_text") rfl)
  have g_square_root : mg "square_root" = some (.ref (He.ga K "square_root")) := He.glo_ok X G (c.t.d.fact 10 (f := .glo "square_root") rfl)
  have g_root_text : mg "root_text" = some (.ref (He.ga K "root_text")) := He.glo_ok X G (c.t.d.fact 11 (f := .glo "root_text") rfl)
  have g_read_part : mg "read_part" = some (.ref (He.ga K "read_part")) := He.glo_ok X G (c.t.d.fact 12 (f := .glo "read_part") rfl)
  have g_is_count : mg "is_count" = some (.ref (He.ga K "is_count")) := He.glo_ok X G (c.t.d.fact 13 (f := .glo "is_count") rfl)
  have g_law_dice : mg "_law_dice" = some (.ref (He.ga K "_law_dice")) := He.glo_ok X G (c.t.d.fact 14 (f := .glo "_law_dice") rfl)
  have g_law_roll : mg "_law_roll" = some (.ref (He.ga K "_law_roll")) := He.glo_ok X G (c.t.d.fact 15 (f := .glo "_law_roll") rfl)
  have g_law_rounds : mg "_law_rounds" = some (.ref (He.ga K "_law_rounds")) := He.glo_ok X G (c.t.d.fact 16 (f := .glo "_law_rounds") rfl)
  have g_law_told : mg "_law_told" = some (.ref (He.ga K "_law_told")) := He.glo_ok X G (c.t.d.fact 17 (f := .glo "_law_told") rfl)
  have g_law_low : mg "_law_low" = some (.ref (He.ga K "_law_low")) := He.glo_ok X G (c.t.d.fact 18 (f := .glo "_law_low") rfl)
  have g_law_drawn : mg "_law_drawn" = some (.ref (He.ga K "_law_drawn")) := He.glo_ok X G (c.t.d.fact 19 (f := .glo "_law_drawn") rfl)
  have g_law_figures : mg "_law_figures" = some (.ref (He.ga K "_law_figures")) := He.glo_ok X G (c.t.d.fact 20 (f := .glo "_law_figures") rfl)
  have g_law_plain : mg "_law_plain" = some (.ref (He.ga K "_law_plain")) := He.glo_ok X G (c.t.d.fact 21 (f := .glo "_law_plain") rfl)
  have g_law : mg "law" = some (.ref (He.ga K "law")) := He.glo_ok X G (c.t.d.fact 22 (f := .glo "law") rfl)
  have h_abs : mg "abs" = none := He.free_ok X G (c.t.d.fact 23 (f := .free "abs") rfl)
  have h_all : mg "all" = none := He.free_ok X G (c.t.d.fact 24 (f := .free "all") rfl)
  have h_int : mg "int" = none := He.free_ok X G (c.t.d.fact 25 (f := .free "int") rfl)
  have h_len : mg "len" = none := He.free_ok X G (c.t.d.fact 26 (f := .free "len") rfl)
  have h_max : mg "max" = none := He.free_ok X G (c.t.d.fact 27 (f := .free "max") rfl)
  have h_range : mg "range" = none := He.free_ok X G (c.t.d.fact 28 (f := .free "range") rfl)
  have h_sorted : mg "sorted" = none := He.free_ok X G (c.t.d.fact 29 (f := .free "sorted") rfl)
  have h_str : mg "str" = none := He.free_ok X G (c.t.d.fact 30 (f := .free "str") rfl)
  have h_tuple : mg "tuple" = none := He.free_ok X G (c.t.d.fact 31 (f := .free "tuple") rfl)
  have h_zip : mg "zip" = none := He.free_ok X G (c.t.d.fact 32 (f := .free "zip") rfl)
  have g_exc : mg "NumberError" = some (.ref (He.ga K "NumberError")) := He.glo_ok X G (c.t.d.fact 33 (f := .glo "NumberError") rfl)
  have xx := He.exc_ok (c.t.d.fact 34 (f := .exc "NumberError") rfl)
  have e_NumberError : Rz K mg (fun x => He.ga K x) "NumberError" := ⟨_, _, _, _, PySem.F.excBase_ValueError, xx.1, g_exc, xx.2.1, xx.2.2.1, xx.2.2.2⟩
  have exm := He.exm_ok (c.t.d.fact 35 (f := .exm "NumberError" "NumberError" true) rfl)
  have t_law_told := told_mk F_law_told g_law_told g_exc exm
  have e : f = He.ga K "law" := by
    have e2 := hfa.symm.trans g_law
    injection e2 with e3
    injection e3
  subst e
  have hnd : ((TT K).map (·.1)).Nodup := of_decide_eq_true c.more
  refine ⟨fd_law, tf.map (He.cT K), Sg.sp sg_law K (fun x => He.ga K x) (TT K), ?_, ?_, ?_, fun s u => FunD.bindsA (ps := [Str.ofString "script"]) F_law (fun _ _ _ _ _ _ us hl => match us, hl with | [_], _ => rfl) s [u] rfl, ?_, ?_⟩
  · intro p hp
    obtain ⟨q, hq, rfl⟩ := List.mem_map.mp hp
    exact c.empty q hq
  · intro p hp
    obtain ⟨q, hq, rfl⟩ := List.mem_map.mp hp
    exact c.out q hq
  · intro p hp
    obtain ⟨q, hq, rfl⟩ := List.mem_map.mp hp
    exact PySem.W.codeHd_of_K X (c.hd q hq)
  · intro H a ns hl hbits hT hS
    have hT2 : ∀ p ∈ TT K, H p.1 = some (.tbl #[]) := fun p hp => by
      obtain ⟨q, hq, e⟩ : ∃ q ∈ tf, (He.cT K q).2 = p.1 := by
        have : p.1 ∈ (TT K).map (·.1) := List.mem_map_of_mem hp
        exact List.mem_map.mp (show p.1 ∈ tf.map fun p => (He.cT K p).2 from this)
      rw [← e]; exact hT _ (List.mem_map_of_mem hq)
    have nK : ∀ p ∈ TT K, K.lookup p.1 = none := fun p hp => by
      obtain ⟨q, hq, e⟩ : ∃ q ∈ tf, (He.cT K q).2 = p.1 := by
        have : p.1 ∈ (TT K).map (·.1) := List.mem_map_of_mem hp
        exact List.mem_map.mp (show p.1 ∈ tf.map fun p => (He.cT K p).2 from this)
      rw [← e]; exact c.out q hq
    have ht : ∀ p ∈ TT K, (∃ q, p.2 = .tab q) ∨ p.2 = .tabg := fun p hp => by
      simp only [TT, List.mem_cons, List.not_mem_nil, or_false] at hp
      rcases hp with rfl | rfl | rfl <;> first | exact .inl ⟨_, rfl⟩ | exact .inr rfl
    obtain ⟨F, fz, tb, dp⟩ := entry hT2 hnd ht nK hS
    exact ⟨F, ns, fun b => b = true, fun _ => False, fz, tb, .cons dp .nil, law_true ns, fun r hr v F' H' G' d => by rw [hr] at d; exact dp_bl d, fun _ z => z.elim⟩
  · intro base X2 G2 TBs
    have TB_is_count := TBs (He.cT K ("is_count", none)) (List.mem_map_of_mem (List.mem_cons_self))
    have hT_is_count : ((He.cT K ("is_count", none)).2, FO.tabg) ∈ TT K := List.mem_cons_self
    have TB_law_plain := TBs (He.cT K ("_law_plain", none)) (List.mem_map_of_mem (List.mem_cons_of_mem _ (List.mem_cons_self)))
    have hT_law_plain : ((He.cT K ("_law_plain", none)).2, FO.tab ((envOfC (Str.ofString "_law_plain") (defScope s_law_plain) 0 0 .none).qual ++ "<lambda>")) ∈ TT K := List.mem_cons_of_mem _ (List.mem_cons_self)
    have TB_law := TBs (He.cT K ("law", none)) (List.mem_map_of_mem (List.mem_cons_of_mem _ (List.mem_cons_of_mem _ (List.mem_cons_self))))
    have hT_law : ((He.cT K ("law", none)).2, FO.tab ((envOfC (Str.ofString "law") (defScope s_law) 0 0 .none).qual ++ "<lambda>")) ∈ TT K := List.mem_cons_of_mem _ (List.mem_cons_of_mem _ (List.mem_cons_self))
    have o_law_dice := ok_law_dice (P := (PySem.Challenge.rw_statstack_k01_numbers_in_least_terms).prog) (w := w) (base := base) (mg := mg) F_law_dice h_abs h_int
    have c_law_dice : CalS _ w K mg base 1 "_law_dice" spDice := ⟨_, _, _, o_law_dice, g_law_dice, F_law_dice.kp, (FunD.bindsN F_law_dice fun _ _ _ _ _ _ us hl => match us, hl with | [_], _ => rfl)⟩
    have o_law_rounds := ok_law_rounds F_law_rounds c_law_dice
    have c_law_rounds : CalS _ w K mg base 2 "_law_rounds" (spRnd K) := ⟨_, _, _, o_law_rounds, g_law_rounds, F_law_rounds.kp, (FunD.bindsN F_law_rounds fun _ _ _ _ _ _ us hl => match us, hl with | [_, _], _ => rfl)⟩
    have c_common_whole : Cal _ w K mg base (fun x => He.ga K x) (TT K) 1 "common_whole" sg_common_whole [] := cal_mk (ok_common_whole (P := (PySem.Challenge.rw_statstack_k01_numbers_in_least_terms).prog) (w := w) (base := base) (mg := mg) (ca := fun x => He.ga K x) (T := TT K) F_common_whole ) g_common_whole F_common_whole.kp (FunD.bindsN F_common_whole fun _ _ _ _ _ _ us hl => match us, hl with | [_, _], _ => rfl)
    have c_part_of : Cal _ w K mg base (fun x => He.ga K x) (TT K) 2 "part_of" sg_part_of [] := cal_mk (ok_part_of (P := (PySem.Challenge.rw_statstack_k01_numbers_in_least_terms).prog) (w := w) (base := base) (mg := mg) (ca := fun x => He.ga K x) (T := TT K) F_part_of h_abs c_common_whole e_NumberError) g_part_of F_part_of.kp (by obtain ⟨ds, h1, h2⟩ := FunD.binds1 (ps := [Str.ofString "top", Str.ofString "bottom"]) F_part_of 2 1 (List.cons_ne_nil _ _) rfl (fun T kV doc pm an cdv ct us its hu hi => match us, its, hu, hi with | [_, _], [_], _, _ => ⟨_, rfl, rfl⟩); cases h1; exact h2)
    have c_sum_of_two : Cal _ w K mg base (fun x => He.ga K x) (TT K) 3 "sum_of_two" sg_sum_of_two [] := cal_mk (ok_sum_of_two (P := (PySem.Challenge.rw_statstack_k01_numbers_in_least_terms).prog) (w := w) (base := base) (mg := mg) (ca := fun x => He.ga K x) (T := TT K) F_sum_of_two c_part_of) g_sum_of_two F_sum_of_two.kp (FunD.bindsN F_sum_of_two fun _ _ _ _ _ _ us hl => match us, hl with | [_, _], _ => rfl)
    have c_less_of : Cal _ w K mg base (fun x => He.ga K x) (TT K) 3 "less_of" sg_less_of [] := cal_mk (ok_less_of (P := (PySem.Challenge.rw_statstack_k01_numbers_in_least_terms).prog) (w := w) (base := base) (mg := mg) (ca := fun x => He.ga K x) (T := TT K) F_less_of c_part_of) g_less_of F_less_of.kp (FunD.bindsN F_less_of fun _ _ _ _ _ _ us hl => match us, hl with | [_, _], _ => rfl)
    have c_times_of : Cal _ w K mg base (fun x => He.ga K x) (TT K) 3 "times_of" sg_times_of [] := cal_mk (ok_times_of (P := (PySem.Challenge.rw_statstack_k01_numbers_in_least_terms).prog) (w := w) (base := base) (mg := mg) (ca := fun x => He.ga K x) (T := TT K) F_times_of c_part_of) g_times_of F_times_of.kp (FunD.bindsN F_times_of fun _ _ _ _ _ _ us hl => match us, hl with | [_, _], _ => rfl)
    have c_divided : Cal _ w K mg base (fun x => He.ga K x) (TT K) 3 "divided" sg_divided [] := cal_mk (ok_divided (P := (PySem.Challenge.rw_statstack_k01_numbers_in_least_terms).prog) (w := w) (base := base) (mg := mg) (ca := fun x => He.ga K x) (T := TT K) F_divided c_part_of) g_divided F_divided.kp (FunD.bindsN F_divided fun _ _ _ _ _ _ us hl => match us, hl with | [_, _], _ => rfl)
    have c_is_below : Cal _ w K mg base (fun x => He.ga K x) (TT K) 1 "is_below" sg_is_below [] := cal_mk (ok_is_below (P := (PySem.Challenge.rw_statstack_k01_numbers_in_least_terms).prog) (w := w) (base := base) (mg := mg) (ca := fun x => He.ga K x) (T := TT K) F_is_below ) g_is_below F_is_below.kp (FunD.bindsN F_is_below fun _ _ _ _ _ _ us hl => match us, hl with | [_, _], _ => rfl)
    have c_sum_parts : Cal _ w K mg base (fun x => He.ga K x) (TT K) 4 "sum_parts" sg_sum_parts [] := cal_mk (ok_sum_parts (P := (PySem.Challenge.rw_statstack_k01_numbers_in_least_terms).prog) (w := w) (base := base) (mg := mg) (ca := fun x => He.ga K x) (T := TT K) F_sum_parts c_sum_of_two) g_sum_parts F_sum_parts.kp (FunD.bindsN F_sum_parts fun _ _ _ _ _ _ us hl => match us, hl with | [_], _ => rfl)
    have c_sum_parts__2 : Cal _ w K mg base (fun x => He.ga K x) (TT K) 4 "sum_parts" sg_sum_parts__2 [] := cal_mk (ok_sum_parts__2 (P := (PySem.Challenge.rw_statstack_k01_numbers_in_least_terms).prog) (w := w) (base := base) (mg := mg) (ca := fun x => He.ga K x) (T := TT K) F_sum_parts c_sum_of_two) g_sum_parts F_sum_parts.kp (FunD.bindsN F_sum_parts fun _ _ _ _ _ _ us hl => match us, hl with | [_], _ => rfl)
    have c_in_part_order : Cal _ w K mg base (fun x => He.ga K x) (TT K) 2 "in_part_order" sg_in_part_order [] := cal_mk (ok_in_part_order (P := (PySem.Challenge.rw_statstack_k01_numbers_in_least_terms).prog) (w := w) (base := base) (mg := mg) (ca := fun x => He.ga K x) (T := TT K) F_in_part_order h_len h_tuple c_is_below) g_in_part_order F_in_part_order.kp (FunD.bindsN F_in_part_order fun _ _ _ _ _ _ us hl => match us, hl with | [_], _ => rfl)
    have c_rounded_text : Cal _ w K mg base (fun x => He.ga K x) (TT K) 1 "rounded_text" sg_rounded_text [] := cal_mk (ok_rounded_text (P := (PySem.Challenge.rw_statstack_k01_numbers_in_least_terms).prog) (w := w) (base := base) (mg := mg) (ca := fun x => He.ga K x) (T := TT K) F_rounded_text h_abs h_len h_range h_str e_NumberError) g_rounded_text F_rounded_text.kp (FunD.bindsN F_rounded_text fun _ _ _ _ _ _ us hl => match us, hl with | [_, _], _ => rfl)
    have c_square_root : Cal _ w K mg base (fun x => He.ga K x) (TT K) 1 "square_root" sg_square_root [] := cal_mk (ok_square_root (P := (PySem.Challenge.rw_statstack_k01_numbers_in_least_terms).prog) (w := w) (base := base) (mg := mg) (ca := fun x => He.ga K x) (T := TT K) F_square_root e_NumberError) g_square_root F_square_root.kp (FunD.bindsN F_square_root fun _ _ _ _ _ _ us hl => match us, hl with | [_], _ => rfl)
    have c_root_text : Cal _ w K mg base (fun x => He.ga K x) (TT K) 2 "root_text" sg_root_text [] := cal_mk (ok_root_text (P := (PySem.Challenge.rw_statstack_k01_numbers_in_least_terms).prog) (w := w) (base := base) (mg := mg) (ca := fun x => He.ga K x) (T := TT K) F_root_text h_len h_range h_str c_square_root e_NumberError) g_root_text F_root_text.kp (FunD.bindsN F_root_text fun _ _ _ _ _ _ us hl => match us, hl with | [_, _], _ => rfl)
    have c_is_count : Cal _ w K mg base (fun x => He.ga K x) (TT K) 1 "is_count" sg_is_count [] := cal_mk (ok_is_count (P := (PySem.Challenge.rw_statstack_k01_numbers_in_least_terms).prog) (w := w) (base := base) (mg := mg) (ca := fun x => He.ga K x) (T := TT K) (p := ("is_count", none)) F_is_count h_all h_len TB_is_count hT_is_count) g_is_count F_is_count.kp (FunD.bindsN F_is_count fun _ _ _ _ _ _ us hl => match us, hl with | [_], _ => rfl)
    have c_read_part : Cal _ w K mg base (fun x => He.ga K x) (TT K) 3 "read_part" sg_read_part [] := cal_mk (ok_read_part (P := (PySem.Challenge.rw_statstack_k01_numbers_in_least_terms).prog) (w := w) (base := base) (mg := mg) (ca := fun x => He.ga K x) (T := TT K) F_read_part h_int h_len c_is_count c_part_of e_NumberError) g_read_part F_read_part.kp (FunD.bindsN F_read_part fun _ _ _ _ _ _ us hl => match us, hl with | [_], _ => rfl)
    have c_law_roll : Cal _ w K mg base (fun x => He.ga K x) (TT K) 1 "_law_roll" sg_law_roll [] := cal_mk (ok_law_roll (P := (PySem.Challenge.rw_statstack_k01_numbers_in_least_terms).prog) (w := w) (base := base) (mg := mg) (ca := fun x => He.ga K x) (T := TT K) F_law_roll h_int) g_law_roll F_law_roll.kp (FunD.bindsN F_law_roll fun _ _ _ _ _ _ us hl => match us, hl with | [_, _], _ => rfl)
    have c_law_low : Cal _ w K mg base (fun x => He.ga K x) (TT K) 1 "_law_low" sg_law_low [] := cal_mk (ok_law_low (P := (PySem.Challenge.rw_statstack_k01_numbers_in_least_terms).prog) (w := w) (base := base) (mg := mg) (ca := fun x => He.ga K x) (T := TT K) F_law_low h_max) g_law_low F_law_low.kp (FunD.bindsN F_law_low fun _ _ _ _ _ _ us hl => match us, hl with | [_, _], _ => rfl)
    have c_law_drawn : Cal _ w K mg base (fun x => He.ga K x) (TT K) 2 "_law_drawn" sg_law_drawn [] := cal_mk (ok_law_drawn (P := (PySem.Challenge.rw_statstack_k01_numbers_in_least_terms).prog) (w := w) (base := base) (mg := mg) (ca := fun x => He.ga K x) (T := TT K) F_law_drawn c_law_low c_law_roll) g_law_drawn F_law_drawn.kp (FunD.bindsN F_law_drawn fun _ _ _ _ _ _ us hl => match us, hl with | [_], _ => rfl)
    have c_law_figures : Cal _ w K mg base (fun x => He.ga K x) (TT K) 1 "_law_figures" sg_law_figures [] := cal_mk (ok_law_figures (P := (PySem.Challenge.rw_statstack_k01_numbers_in_least_terms).prog) (w := w) (base := base) (mg := mg) (ca := fun x => He.ga K x) (T := TT K) F_law_figures h_len h_max h_str) g_law_figures F_law_figures.kp (FunD.bindsN F_law_figures fun _ _ _ _ _ _ us hl => match us, hl with | [_, _], _ => rfl)
    have c_law_plain : Cal _ w K mg base (fun x => He.ga K x) (TT K) 6 "_law_plain" sg_law_plain [] := cal_mk (ok_law_plain (P := (PySem.Challenge.rw_statstack_k01_numbers_in_least_terms).prog) (w := w) (base := base) (mg := mg) (ca := fun x => He.ga K x) (T := TT K) (p := ("_law_plain", none)) F_law_plain c_common_whole c_divided c_in_part_order c_is_count c_part_of c_read_part c_root_text c_rounded_text c_square_root c_sum_of_two c_sum_parts__2 t_law_told TB_law_plain hT_law_plain) g_law_plain F_law_plain.kp (FunD.bindsN F_law_plain fun _ _ _ _ _ _ us hl => match us, hl with | [], _ => rfl)
    exact ok_law (P := (PySem.Challenge.rw_statstack_k01_numbers_in_least_terms).prog) (w := w) (base := base) (mg := mg) (ca := fun x => He.ga K x) (T := TT K) (p := ("law", none)) F_law h_int h_len h_max h_range h_sorted h_str h_zip c_law_drawn c_law_figures c_law_low c_law_plain c_law_roll c_law_rounds c_divided c_in_part_order c_is_below c_less_of c_part_of c_read_part c_root_text c_rounded_text c_square_root c_sum_of_two c_sum_parts c_times_of t_law_told TB_law hT_law
end K1
open PySem PySem.W PySem.Calls PyProof.Rows
theorem PySem.Challenge.cw_statstack_k01_numbers_in_least_terms_holds : PySem.Challenge.rw_statstack_k01_numbers_in_least_terms.Holds := by
  w_on; o_law
  refine HandSHeadRun.head_any (r := OpenLaw.row PySem.Challenge.rw_statstack_k01_numbers_in_least_terms) (q := view (OpenLaw.row PySem.Challenge.rw_statstack_k01_numbers_in_least_terms).prog [27]) (H := K1.hk) (ob := K1.ob) (M := 2000) (loose := K1.loose) (d := HandSHeadRun.topDef (OpenLaw.row PySem.Challenge.rw_statstack_k01_numbers_in_least_terms).prog 27) (kwd := []) K1.ob_eq
    (by kernel_rfl) (fun s => by kernel_rfl) K1.run (by kernel_rfl) (by kernel_rfl) (by kernel_rfl) (by rfl) (by first | assumption | decide +kernel) (by decide +kernel) ⟨rfl, rfl, rfl, rfl, rfl, by decide +kernel⟩ ?hw ?hc
  case hw => w_witness2
  case hc =>
    refine LamX.walk_ofTsE (l := PySem.Challenge.rw_statstack_k01_numbers_in_least_terms) (n := 63) (k := 7) (x := "script") (CX := fun w => L2.CX (PySem.Challenge.rw_statstack_k01_numbers_in_least_terms).prog w) rfl (by decide) (by kernel_rfl) ⟨rfl, by decide, by decide⟩ ?F (fun w H s e s' z => ?CX)
    case CX =>
      obtain ⟨_, _, _, _, _, _, _, _, _, _, _, _, q⟩ := z
      exact q
    intro w mg fa h Y G hmg0
    obtain ⟨K, KX, c⟩ := Y
    have hmg : mg ("law" : PySem.Str) = some (.ref fa) := by
      have e : (HandSHeadRun.topDef (OpenLaw.row PySem.Challenge.rw_statstack_k01_numbers_in_least_terms).prog 27).name = ("law" : PySem.Str) := by kernel_rfl
      rw [← e]
      exact hmg0
    exact ⟨K, KX, K1.facts KX G hmg c K1.law_all⟩
