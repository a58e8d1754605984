import PyProof.Rows.All
import Wide.All
import OpenK.AllK
import Wide.FinOn
import KE.KStateDown
import Lean
import HandS.ForMost
import HandS.ForExc
import HandS.More
import HandS.Wide
import HandS.Gcd
import HandS.CallSlots
import HandS.TryMany
import HandS.Defaults
import HandS.HeadHook2
import HandS.TupAny
import HandS.TupMul
import HandS.TupLe
import HandS.IsInst
import HandS.Deep
import HandS.Flow
import HandS.WideBits
import HandS.Style
import HandS.Zip
import HandS.Rev
import HandS.ExcIs
import HandS.Head3
import HandS.HeadEnd
import HandS.EndBits
import PySem.Challenge.RW_manifoldzeros_k00_numbers_of_a_field
set_option Elab.async false
set_option linter.all false
set_option maxRecDepth 100000
namespace Vi
open PySem PySem.Spec PyProof.Rows L2

/-! ### plain data -/
inductive Ty where
  | int | bool | str | list | tuple | dict | valueError
  deriving DecidableEq
def Ty.nm : Ty → String
  | .int => "int"
  | .bool => "bool"
  | .str => "str"
  | .list => "list"
  | .tuple => "tuple"
  | .dict => "dict"
  | .valueError => "ValueError"
inductive D where
  | non
  | bl (b : Bool)
  | int (i : Int)
  | str (s : Str)
  | opq (v : V)
  | cls (x : Str)
  | ty (t : Ty)
  | scr (ns : List Int)
  | lst (ds : List D)
  | tup (ds : List D)
  | obj (c : Str) (ns : List Str) (vs : List D)
mutual
def flat : D → Bool
  | .lst _ => false
  | .scr _ => false
  | .tup ds => flatL ds
  | .obj _ _ ds => flatL ds
  | _ => true
def flatL : List D → Bool
  | [] => true
  | d :: ds => flat d && flatL ds
end

abbrev Av := Addr → Prop
abbrev noA : Av := fun _ => False
/-- a tuple of the module's own -/
def KT (K : PySem.W.Frag) (a : Addr) (xs : List V) : Prop :=
  ∃ (o : Obj) (its : Array Value) (n : Nat), K.lookup a = some o ∧ o.cls = .type "tuple" ∧ o.data = .seq its n ∧ its.size ≤ sizeLine ∧ Vals xs its.toList
/-- a list of the module's own -/
def KL (K : PySem.W.Frag) (a : Addr) (xs : List V) : Prop :=
  ∃ (o : Obj) (its : Array Value) (n : Nat), K.lookup a = some o ∧ o.cls = .type "list" ∧ o.dict = none ∧ o.data = .seq its n ∧ its.size ≤ sizeLine ∧ Vals xs its.toList
mutual
/-- v denotes d, by objects outside O -/
def Den (K : PySem.W.Frag) (O : Av) (H : Hp) : D → V → Prop
  | .non, v => v = .non
  | .bl b, v => v = .bl b
  | .int i, v => v = .int i
  | .str s, v => v = .str s
  | .opq u, v => v = u
  | .cls x, v => v = .ref (He.ga K x)
  | .ty t, v => v = .ty t.nm
  | .scr ns, v => ∃ a, v = .ref a ∧ ((¬ O a ∧ ∃ o, H a = some (.frz o (.lst (ns.map V.int)))) ∨ KL K a (ns.map V.int))
  | .lst ds, v => ∃ a xs, v = .ref a ∧ ¬ O a ∧ H a = some (.lst xs) ∧ DenL K O H ds xs
  | .tup ds, v => ∃ a xs, v = .ref a ∧ ((¬ O a ∧ H a = some (.tup xs)) ∨ KT K a xs) ∧ DenL K O H ds xs
  | .obj c ns vs, v => ∃ a dx fs, v = .ref a ∧ ¬ O a ∧ H a = some (.ins (He.ga K c) dx fs) ∧ fs.map (·.1) = ns ∧ DenL K O H vs (fs.map (·.2))
def DenL (K : PySem.W.Frag) (O : Av) (H : Hp) : List D → List V → Prop
  | [], xs => xs = []
  | d :: ds, xs => ∃ x r, xs = x :: r ∧ Den K O H d x ∧ DenL K O H ds r
end

structure Step (O : Av) (H : Hp) (O' : Av) (H' : Hp) : Prop where
  keep : ∀ a o, ¬ O a → H a = some o → H' a = some o
  grow : ∀ a, O' a → O a ∨ H a = none
theorem Step.refl (O : Av) (H : Hp) : Step O H O H := ⟨fun _ _ _ h => h, fun _ h => .inl h⟩
theorem Step.trans {O O1 O2 : Av} {H H1 H2 : Hp} (s : Step O H O1 H1) (t : Step O1 H1 O2 H2) : Step O H O2 H2 := by
  refine ⟨fun a o n h => ?_, fun a h => ?_⟩
  · refine t.keep a o (fun z => ?_) (s.keep a o n h)
    rcases s.grow a z with z | z
    · exact n z
    · rw [z] at h; cases h
  · rcases t.grow a h with h | h
    · exact s.grow a h
    · by_cases q : O a
      · exact .inl q
      · refine .inr ?_
        cases e : H a with
        | none => rfl
        | some o => rw [s.keep a o q e] at h; cases h
mutual
theorem Den.step {K : PySem.W.Frag} {O O' : Av} {H H' : Hp} (st : Step O H O' H') : ∀ (d : D) (v : V), Den K O H d v → Den K O' H' d v
  | .non, v, h => by simpa only [Den] using h
  | .bl b, v, h => by simpa only [Den] using h
  | .int i, v, h => by simpa only [Den] using h
  | .str s, v, h => by simpa only [Den] using h
  | .opq u, v, h => by simpa only [Den] using h
  | .cls x, v, h => by simpa only [Den] using h
  | .ty t, v, h => by simpa only [Den] using h
  | .scr ns, v, h => by
    simp only [Den] at h ⊢
    obtain ⟨a, e, h⟩ := h
    refine ⟨a, e, h.elim (fun h => .inl ?_) .inr⟩
    obtain ⟨n, o, h⟩ := h
    refine ⟨fun z => ?_, o, st.keep _ _ n h⟩
    rcases st.grow a z with z | z
    · exact n z
    · rw [z] at h; cases h
  | .lst ds, v, h => by
    simp only [Den] at h ⊢
    obtain ⟨a, xs, e, n, h, r⟩ := h
    refine ⟨a, xs, e, fun z => ?_, st.keep _ _ n h, DenL.step st ds xs r⟩
    rcases st.grow a z with z | z
    · exact n z
    · rw [z] at h; cases h
  | .tup ds, v, h => by
    simp only [Den] at h ⊢
    obtain ⟨a, xs, e, h, r⟩ := h
    refine ⟨a, xs, e, h.elim (fun h => .inl ?_) .inr, DenL.step st ds xs r⟩
    obtain ⟨n, h⟩ := h
    refine ⟨fun z => ?_, st.keep _ _ n h⟩
    rcases st.grow a z with z | z
    · exact n z
    · rw [z] at h; cases h
  | .obj c ns vs, v, h => by
    simp only [Den] at h ⊢
    obtain ⟨a, dx, fs, e, n, h, q, r⟩ := h
    refine ⟨a, dx, fs, e, fun z => ?_, st.keep _ _ n h, q, DenL.step st vs _ r⟩
    rcases st.grow a z with z | z
    · exact n z
    · rw [z] at h; cases h
theorem DenL.step {K : PySem.W.Frag} {O O' : Av} {H H' : Hp} (st : Step O H O' H') : ∀ (ds : List D) (xs : List V), DenL K O H ds xs → DenL K O' H' ds xs
  | [], xs, h => by simpa only [DenL] using h
  | d :: ds, xs, h => by
    simp only [DenL] at h ⊢
    obtain ⟨x, r, e, h1, h2⟩ := h
    exact ⟨x, r, e, Den.step st d x h1, DenL.step st ds r h2⟩
end

def Mt : Option HO → Prop
  | some (.lst _) => True
  | some (.dK _) => True
  | some (.dT _) => True
  | _ => False
mutual
theorem Den.flat {K : PySem.W.Frag} {O : Av} {H : Hp} (hm : ∀ a, O a → Mt (H a)) : ∀ (d : D) (v : V), flat d = true → Den K noA H d v → Den K O H d v
  | .non, v, _, h => by simpa only [Den] using h
  | .bl b, v, _, h => by simpa only [Den] using h
  | .int i, v, _, h => by simpa only [Den] using h
  | .str s, v, _, h => by simpa only [Den] using h
  | .opq u, v, _, h => by simpa only [Den] using h
  | .cls x, v, _, h => by simpa only [Den] using h
  | .ty t, v, _, h => by simpa only [Den] using h
  | .scr ns, v, f, h => by simp [Vi.flat] at f
  | .lst ds, v, f, h => by simp [Vi.flat] at f
  | .tup ds, v, f, h => by
    simp only [Den] at h ⊢
    obtain ⟨a, xs, e, h, r⟩ := h
    refine ⟨a, xs, e, h.elim (fun h => .inl ⟨fun z => ?_, h.2⟩) .inr, DenL.flat hm ds xs (by simpa only [Vi.flat] using f) r⟩
    have q := hm a z
    rw [h.2] at q
    exact q
  | .obj c ns vs, v, f, h => by
    simp only [Den] at h ⊢
    obtain ⟨a, dx, fs, e, n, h, q, r⟩ := h
    refine ⟨a, dx, fs, e, fun z => ?_, h, q, DenL.flat hm vs _ (by simpa only [Vi.flat] using f) r⟩
    have q := hm a z
    rw [h] at q
    exact q
theorem DenL.flat {K : PySem.W.Frag} {O : Av} {H : Hp} (hm : ∀ a, O a → Mt (H a)) : ∀ (ds : List D) (xs : List V), flatL ds = true → DenL K noA H ds xs → DenL K O H ds xs
  | [], xs, _, h => by simpa only [DenL] using h
  | d :: ds, xs, f, h => by
    simp only [DenL] at h ⊢
    obtain ⟨x, r, e, h1, h2⟩ := h
    simp only [Vi.flatL, Bool.and_eq_true] at f
    exact ⟨x, r, e, Den.flat hm d x f.1 h1, DenL.flat hm ds r f.2 h2⟩
end

/-! ### lists of data -/
section
variable {K : PySem.W.Frag} {O : Av} {H : Hp}
theorem DenL.length : ∀ {ds : List D} {xs : List V}, DenL K O H ds xs → ds.length = xs.length
  | [], xs, h => by simp only [DenL] at h; subst h; rfl
  | d :: ds, xs, h => by
    simp only [DenL] at h
    obtain ⟨x, r, rfl, _, h2⟩ := h
    simp [DenL.length h2]
theorem DenL.nil : DenL K O H [] [] := by simp only [DenL]
theorem DenL.cons {d : D} {ds : List D} {x : V} {xs : List V} (h : Den K O H d x) (t : DenL K O H ds xs) : DenL K O H (d :: ds) (x :: xs) := by
  simp only [DenL]
  exact ⟨x, xs, rfl, h, t⟩
theorem DenL.append : ∀ {ds es : List D} {xs ys : List V}, DenL K O H ds xs → DenL K O H es ys → DenL K O H (ds ++ es) (xs ++ ys)
  | [], es, xs, ys, h, g => by
    simp only [DenL] at h
    subst h
    exact g
  | d :: ds, es, xs, ys, h, g => by
    simp only [DenL] at h
    obtain ⟨x, r, rfl, h1, h2⟩ := h
    exact DenL.cons h1 (DenL.append h2 g)
theorem DenL.get : ∀ {ds : List D} {xs : List V} {i : Nat} {x : V}, DenL K O H ds xs → xs[i]? = some x → ∃ d, ds[i]? = some d ∧ Den K O H d x
  | [], xs, i, x, h, e => by
    simp only [DenL] at h
    subst h
    simp at e
  | d :: ds, xs, 0, x, h, e => by
    simp only [DenL] at h
    obtain ⟨y, r, rfl, h1, h2⟩ := h
    simp at e
    subst e
    exact ⟨d, rfl, h1⟩
  | d :: ds, xs, i + 1, x, h, e => by
    simp only [DenL] at h
    obtain ⟨y, r, rfl, h1, h2⟩ := h
    simpa using DenL.get h2 (i := i) (by simpa using e)
theorem DenL.get' {ds : List D} {xs : List V} {i : Nat} {d : D} (h : DenL K O H ds xs) (e : ds[i]? = some d) : ∃ x, xs[i]? = some x ∧ Den K O H d x := by
  have hl := h.length
  have hi : i < ds.length := (List.getElem?_eq_some_iff.mp e).1
  have hx : xs[i]? = some xs[i] := List.getElem?_eq_getElem (by omega)
  obtain ⟨d', e', r⟩ := h.get hx
  rw [e] at e'
  cases e'
  exact ⟨_, hx, r⟩
theorem DenL.set : ∀ {ds : List D} {xs : List V} {d : D} {x : V} (i : Nat), DenL K O H ds xs → Den K O H d x → DenL K O H (ds.set i d) (xs.set i x)
  | [], xs, d, x, i, h, g => by
    simp only [DenL] at h
    subst h
    exact DenL.nil
  | e :: ds, xs, d, x, 0, h, g => by
    simp only [DenL] at h
    obtain ⟨y, r, rfl, h1, h2⟩ := h
    exact DenL.cons g h2
  | e :: ds, xs, d, x, i + 1, h, g => by
    simp only [DenL] at h
    obtain ⟨y, r, rfl, h1, h2⟩ := h
    exact DenL.cons h1 (DenL.set i h2 g)
theorem DenL.take : ∀ {ds : List D} {xs : List V} (n : Nat), DenL K O H ds xs → DenL K O H (ds.take n) (xs.take n)
  | ds, xs, 0, _ => DenL.nil
  | [], xs, n + 1, h => by
    simp only [DenL] at h
    subst h
    exact DenL.nil
  | d :: ds, xs, n + 1, h => by
    simp only [DenL] at h
    obtain ⟨y, r, rfl, h1, h2⟩ := h
    exact DenL.cons h1 (DenL.take n h2)
theorem DenL.drop : ∀ {ds : List D} {xs : List V} (n : Nat), DenL K O H ds xs → DenL K O H (ds.drop n) (xs.drop n)
  | ds, xs, 0, h => h
  | [], xs, n + 1, h => by
    simp only [DenL] at h
    subst h
    exact DenL.nil
  | d :: ds, xs, n + 1, h => by
    simp only [DenL] at h
    obtain ⟨y, r, rfl, h1, h2⟩ := h
    exact DenL.drop n h2
theorem DenL.reverse : ∀ {ds : List D} {xs : List V}, DenL K O H ds xs → DenL K O H ds.reverse xs.reverse
  | [], xs, h => by
    simp only [DenL] at h
    subst h
    exact DenL.nil
  | d :: ds, xs, h => by
    simp only [DenL] at h
    obtain ⟨y, r, rfl, h1, h2⟩ := h
    rw [List.reverse_cons, List.reverse_cons]
    exact DenL.append (DenL.reverse h2) (DenL.cons h1 DenL.nil)
theorem DenL.nil_eq {xs : List V} (h : DenL K O H [] xs) : xs = [] := by simpa only [DenL] using h
theorem DenL.uncons {d : D} {ds : List D} {xs : List V} (h : DenL K O H (d :: ds) xs) : ∃ x r, xs = x :: r ∧ Den K O H d x ∧ DenL K O H ds r := by simpa only [DenL] using h
theorem DenL.ints : ∀ {ns : List Int} {xs : List V}, DenL K O H (ns.map D.int) xs → xs = ns.map V.int
  | [], xs, h => h.nil_eq
  | n :: ns, xs, h => by
    obtain ⟨x, r, rfl, h1, h2⟩ := h.uncons
    simp only [Den] at h1
    subst h1
    rw [DenL.ints h2]
    rfl
theorem DenL.bls : ∀ {ns : List Bool} {xs : List V}, DenL K O H (ns.map D.bl) xs → xs = ns.map V.bl
  | [], xs, h => h.nil_eq
  | n :: ns, xs, h => by
    obtain ⟨x, r, rfl, h1, h2⟩ := h.uncons
    simp only [Den] at h1
    subst h1
    rw [DenL.bls h2]
    rfl
theorem DenL.strs : ∀ {ns : List Str} {xs : List V}, DenL K O H (ns.map D.str) xs → xs = ns.map V.str
  | [], xs, h => h.nil_eq
  | n :: ns, xs, h => by
    obtain ⟨x, r, rfl, h1, h2⟩ := h.uncons
    simp only [Den] at h1
    subst h1
    rw [DenL.strs h2]
    rfl
end

/-! ### the frame's slots as data -/
inductive Md where
  | sh | tnt | own | exn
/-- the frame's heap at its entry; the handled exception's address -/
structure H0T where
  h : Hp
  x : Addr
  o : Option Obj
instance : CoeFun H0T (fun _ => Addr → Option HO) := ⟨H0T.h⟩
instance : Coe H0T Hp := ⟨H0T.h⟩
abbrev Slot := Option (Md × D)
abbrev VEnv := List Slot
def OwnC (K : PySem.W.Frag) (O : Av) (H : Hp) (a : Addr) : D → Prop
  | .lst ds => ∃ xs, H a = some (.lst xs) ∧ DenL K O H ds xs
  | _ => False
def SlotOk (K : PySem.W.Frag) (H0 : H0T) (O : Av) (H : Hp) (v : V) : Md × D → Prop
  | (.sh, d) => Den K O H d v
  | (.tnt, d) => Den K noA H0 d v
  | (.own, d) => ∃ a, v = .ref a ∧ O a ∧ H0 a = none ∧ OwnC K O H a d
  | (.exn, d) => v = .ref H0.x ∧ match d with
    | .cls nm => ∃ oe, H0.o = some oe ∧ oe.cls = .ref (He.ga K nm) ∧ oe.dict = none ∧ ∃ vs, oe.data = .fields vs
    | _ => False
structure Rel (K : PySem.W.Frag) (H0 : H0T) (O0 : Av) (env : VEnv) (σ : L2.St) (H : Hp) (O : Av) : Prop where
  ext : ∀ a o, H0 a = some o → H a = some o
  sub : ∀ a, O0 a → O a
  live0 : ∀ a, O0 a → H0 a ≠ none
  new : ∀ a, O a → O0 a ∨ H0 a = none
  mt : ∀ a, O a → Mt (H a)
  len : env.length = σ.length
  slot : ∀ (i : Nat) (s : Md × D), env[i]? = some (some s) → ∃ v, σ[i]? = some (some v) ∧ SlotOk K H0 O H v s
  dis : ∀ (i j : Nat) (d e : D) (a : Addr), i ≠ j → env[i]? = some (some (.own, d)) → env[j]? = some (some (.own, e)) → σ[i]? = some (some (.ref a)) → σ[j]? ≠ some (some (.ref a))
section
variable {K : PySem.W.Frag} {H0 : H0T} {H H' : Hp} {O0 O O' : Av} {env : VEnv} {σ : L2.St} {a p : Addr}
theorem Rel.live (R : Rel K H0 O0 env σ H O) : ∀ a, O a → H a ≠ none := fun a h e => by
  have q := R.mt a h
  rw [e] at q
  exact q
theorem Rel.no0 (R : Rel K H0 O0 env σ H O) (h : H0 p = none) : ¬ O0 p := fun z => R.live0 p z h
theorem Rel.noO (R : Rel K H0 O0 env σ H O) (h : H p = none) : ¬ O p := fun z => R.live p z h
theorem Rel.h0 (R : Rel K H0 O0 env σ H O) (h : H p = none) : H0 p = none := by
  cases e : H0 p with
  | none => rfl
  | some o => rw [R.ext p o e] at h; cases h
/-- tnt stays -/
theorem Rel.tnt (R : Rel K H0 O0 env σ H O) {d : D} {v : V} (h : Den K noA H0 d v) : Den K noA H d v := Den.step ⟨fun a o _ q => R.ext a o q, fun _ z => z.elim⟩ d v h
theorem Rel.weak (R : Rel K H0 O0 env σ H O) {d : D} {v : V} (h : Den K O H d v) : Den K noA H d v := Den.step ⟨fun a o _ q => q, fun _ z => z.elim⟩ d v h
theorem OwnC.step {d : D} (st : Step O H O' H') (k : ∀ o, H a = some o → H' a = some o) (h : OwnC K O H a d) : OwnC K O' H' a d := by
  cases d with
  | lst ds =>
    obtain ⟨xs, h, r⟩ := h
    exact ⟨xs, k _ h, DenL.step st ds xs r⟩
  | _ => exact h.elim
/-- all that was tracked stays (a call, a new object), O as it was -/
theorem Rel.kept (R : Rel K H0 O0 env σ H O) (k : ∀ a o, H a = some o → H' a = some o) : Rel K H0 O0 env σ H' O := by
  have st : Step O H O H' := ⟨fun a o _ h => k a o h, fun _ h => .inl h⟩
  refine ⟨fun a o h => k a o (R.ext a o h), R.sub, R.live0, R.new, fun a h => ?_, R.len, fun i s e => ?_, R.dis⟩
  · have q := R.mt a h
    cases e : H a with
    | none => rw [e] at q; exact q.elim
    | some o => rw [e] at q; rw [k a o e]; exact q
  · obtain ⟨v, e1, h⟩ := R.slot i s e
    refine ⟨v, e1, ?_⟩
    obtain ⟨m, d⟩ := s
    cases m with
    | sh => exact Den.step st d v h
    | tnt => exact h
    | exn => exact h
    | own =>
      obtain ⟨a, e2, h1, h2, h3⟩ := h
      exact ⟨a, e2, h1, h2, OwnC.step st (fun o => k a o) h3⟩
/-- p, a new list that nobody holds yet, comes under O -/
theorem Rel.grow (R : Rel K H0 O0 env σ H O) (hp : H p = none) (k : ∀ a o, H a = some o → H' a = some o) (hm : Mt (H' p)) : Rel K H0 O0 env σ H' (fun a => O a ∨ a = p) := by
  have st : Step O H (fun a => O a ∨ a = p) H' := ⟨fun a o _ h => k a o h, fun a h => h.elim .inl fun e => .inr (by rw [e]; exact hp)⟩
  refine ⟨fun a o h => k a o (R.ext a o h), fun a h => .inl (R.sub a h), R.live0, fun a h => ?_, fun a h => ?_, R.len, fun i s e => ?_, R.dis⟩
  · rcases h with h | h
    · exact R.new a h
    · rw [h]; exact .inr (R.h0 hp)
  · rcases h with h | h
    · have q := R.mt a h
      cases e : H a with
      | none => rw [e] at q; exact q.elim
      | some o => rw [e] at q; rw [k a o e]; exact q
    · rw [h]; exact hm
  · obtain ⟨v, e1, h⟩ := R.slot i s e
    refine ⟨v, e1, ?_⟩
    obtain ⟨m, d⟩ := s
    cases m with
    | sh => exact Den.step st d v h
    | tnt => exact h
    | exn => exact h
    | own =>
      obtain ⟨a, e2, h1, h2, h3⟩ := h
      exact ⟨a, e2, .inl h1, h2, OwnC.step st (fun o => k a o) h3⟩
/-- p is let go from O -/
theorem Rel.drop (R : Rel K H0 O0 env σ H O) (h0 : H0 p = none) (hn : ∀ (i : Nat) (e : D), env[i]? = some (some (.own, e)) → σ[i]? ≠ some (some (.ref p))) : Rel K H0 O0 env σ H (fun a => O a ∧ a ≠ p) := by
  have st : Step O H (fun a => O a ∧ a ≠ p) H := ⟨fun a o _ h => h, fun a h => .inl h.1⟩
  refine ⟨R.ext, fun a h => ⟨R.sub a h, fun e => ?_⟩, R.live0, fun a h => R.new a h.1, fun a h => R.mt a h.1, R.len, fun i s e => ?_, R.dis⟩
  · subst e
    exact R.live0 a h h0
  · obtain ⟨v, e1, h⟩ := R.slot i s e
    refine ⟨v, e1, ?_⟩
    obtain ⟨m, d⟩ := s
    cases m with
    | sh => exact Den.step st d v h
    | tnt => exact h
    | exn => exact h
    | own =>
      obtain ⟨a, e2, h1, h2, h3⟩ := h
      refine ⟨a, e2, ⟨h1, fun z => ?_⟩, h2, OwnC.step st (fun o q => q) h3⟩
      subst z
      subst e2
      exact hn i d e e1
/-- what stands at a slot is set -/
theorem Rel.set (R : Rel K H0 O0 env σ H O) {i : Nat} {v : V} {s : Md × D} (h : SlotOk K H0 O H v s) (hd : s.1 = .own → ∀ (j : Nat) (e : D), j ≠ i → env[j]? = some (some (.own, e)) → σ[j]? ≠ some (some v)) :
    Rel K H0 O0 (env.set i (some s)) (σ.set i (some v)) H O := by
  refine ⟨R.ext, R.sub, R.live0, R.new, R.mt, by simpa using R.len, fun j t e => ?_, fun j l d e b hjl e1 e2 e3 => ?_⟩
  · by_cases hj : i = j
    · subst hj
      by_cases hl : i < env.length
      · rw [List.getElem?_set_self hl] at e
        cases e
        rw [List.getElem?_set_self (by rw [← R.len]; exact hl)]
        exact ⟨v, rfl, h⟩
      · rw [List.getElem?_eq_none (by simpa using hl)] at e
        cases e
    · rw [List.getElem?_set_ne hj] at e ⊢
      exact R.slot j t e
  · by_cases hj : i = j
    · subst hj
      rw [List.getElem?_set_ne hjl] at e2 ⊢
      by_cases hl : i < env.length
      · rw [List.getElem?_set_self hl] at e1
        rw [List.getElem?_set_self (by rw [← R.len]; exact hl)] at e3
        cases e1
        cases e3
        exact hd rfl l e (Ne.symm hjl) e2
      · rw [List.getElem?_eq_none (by simpa using hl)] at e1
        cases e1
    · rw [List.getElem?_set_ne hj] at e1 e3
      by_cases hl2 : i = l
      · subst hl2
        by_cases hl : i < env.length
        · rw [List.getElem?_set_self hl] at e2
          rw [List.getElem?_set_self (by rw [← R.len]; exact hl)]
          cases e2
          intro z
          cases z
          exact hd rfl j d hjl e1 e3
        · rw [List.getElem?_eq_none (by simpa using hl)] at e2
          cases e2
      · rw [List.getElem?_set_ne hl2] at e2 ⊢
        exact R.dis j l d e b hjl e1 e2 e3
/-- a slot is forgotten -/
theorem Rel.unset (R : Rel K H0 O0 env σ H O) {i : Nat} {o : Option V} : Rel K H0 O0 (env.set i none) (σ.set i o) H O := by
  refine ⟨R.ext, R.sub, R.live0, R.new, R.mt, by simpa using R.len, fun j t e => ?_, fun j l d e b hjl e1 e2 e3 => ?_⟩
  · by_cases hj : i = j
    · subst hj
      by_cases hl : i < env.length
      · rw [List.getElem?_set_self hl] at e
        cases e
      · rw [List.getElem?_eq_none (by simpa using hl)] at e
        cases e
    · rw [List.getElem?_set_ne hj] at e ⊢
      exact R.slot j t e
  · have nj : i ≠ j := fun z => by
      subst z
      by_cases hl : i < env.length
      · rw [List.getElem?_set_self hl] at e1
        cases e1
      · rw [List.getElem?_eq_none (by simpa using hl)] at e1
        cases e1
    have nl : i ≠ l := fun z => by
      subst z
      by_cases hl : i < env.length
      · rw [List.getElem?_set_self hl] at e2
        cases e2
      · rw [List.getElem?_eq_none (by simpa using hl)] at e2
        cases e2
    rw [List.getElem?_set_ne nj] at e1 e3
    rw [List.getElem?_set_ne nl] at e2 ⊢
    exact R.dis j l d e b hjl e1 e2 e3
/-- a list of ours is written -/
theorem Rel.write (R : Rel K H0 O0 env σ H O) {i : Nat} {d d' : D} {o : HO} (e : env[i]? = some (some (.own, d))) (ev : σ[i]? = some (some (.ref a))) (hO : O a) (h0 : H0 a = none) (hm : Mt (some o)) (h : OwnC K O (upd H a o) a d') :
    Rel K H0 O0 (env.set i (some (.own, d'))) σ (upd H a o) O ∧ Step O H O (upd H a o) := by
  have st : Step O H O (upd H a o) := ⟨fun b u n q => by rw [upd_ne (fun z => n (by rw [z]; exact hO))]; exact q, fun _ z => .inl z⟩
  have hi : i < env.length := (List.getElem?_eq_some_iff.mp e).1
  refine ⟨⟨fun b u q => ?_, R.sub, R.live0, R.new, fun b q => ?_, by simpa using R.len, fun j t e' => ?_, fun j l x y b hjl e1 e2 e3 => ?_⟩, st⟩
  · rw [upd_ne (fun z => by rw [z, h0] at q; cases q)]
    exact R.ext b u q
  · by_cases hb : b = a
    · subst hb; rw [upd_same]; exact hm
    · rw [upd_ne hb]; exact R.mt b q
  · by_cases hj : i = j
    · subst hj
      rw [List.getElem?_set_self hi] at e'
      cases e'
      exact ⟨.ref a, ev, a, rfl, hO, h0, h⟩
    · rw [List.getElem?_set_ne hj] at e'
      obtain ⟨v, e1, q⟩ := R.slot j t e'
      refine ⟨v, e1, ?_⟩
      obtain ⟨m, x⟩ := t
      cases m with
      | sh => exact Den.step st x v q
      | tnt => exact q
      | exn => exact q
      | own =>
        obtain ⟨b, e2, h1, h2, h3⟩ := q
        refine ⟨b, e2, h1, h2, OwnC.step st (fun u q => ?_) h3⟩
        subst e2
        rw [upd_ne fun z => by subst z; exact R.dis i j d x b hj e e' ev e1]
        exact q
  · have key : ∀ (k : Nat) (z : D), (env.set i (some (Md.own, d')))[k]? = some (some (Md.own, z)) → ∃ z', env[k]? = some (some (Md.own, z')) := fun k z q => by
      by_cases hk : i = k
      · subst hk; exact ⟨d, e⟩
      · rw [List.getElem?_set_ne hk] at q; exact ⟨z, q⟩
    obtain ⟨x', e1'⟩ := key j x e1
    obtain ⟨y', e2'⟩ := key l y e2
    exact R.dis j l x' y' b hjl e1' e2' e3
end
end Vi

set_option Elab.async false
set_option linter.all false
set_option maxRecDepth 100000
namespace Vi
open PySem PySem.Spec PyProof.Rows L2

/-- an expression's step: nothing that was is changed -/
structure StepE (O : Av) (H : Hp) (O' : Av) (H' : Hp) : Prop where
  keep : ∀ a o, H a = some o → H' a = some o
  grow : ∀ a, O' a → O a ∨ H a = none
theorem StepE.refl (O : Av) (H : Hp) : StepE O H O H := ⟨fun _ _ h => h, fun _ h => .inl h⟩
theorem StepE.st {O O' : Av} {H H' : Hp} (s : StepE O H O' H') : Step O H O' H' := ⟨fun a o _ h => s.keep a o h, s.grow⟩
theorem StepE.trans {O O1 O2 : Av} {H H1 H2 : Hp} (s : StepE O H O1 H1) (t : StepE O1 H1 O2 H2) : StepE O H O2 H2 := ⟨fun a o h => t.keep a o (s.keep a o h), (s.st.trans t.st).grow⟩
inductive Kd where
  | sh | tnt | fr | own (i : Nat)
/-- an exception: its class's name; the fields of an own __init__ -/
structure Xn where
  cls : Str
  pl : Option (List Str × List D) := none
inductive RE where
  | ok (k : Kd) (d : D) (e : VEnv)
  | ex (x : Xn) (e : VEnv)
  | no
def KOk (K : PySem.W.Frag) (H0 : H0T) (O : Av) (H : Hp) (σ : L2.St) (e : VEnv) (k : Kd) (d : D) (v : V) : Prop := match k with
  | .sh => Den K O H d v
  | .tnt => Den K noA H0 d v
  | .own i => σ[i]? = some (some v) ∧ e[i]? = some (some (.own, d))
  | .fr => ∃ p, v = .ref p ∧ O p ∧ H0 p = none ∧ OwnC K O H p d ∧ ∀ (i : Nat) (z : D), e[i]? = some (some (.own, z)) → σ[i]? ≠ some (some (.ref p))
def XOk (K : PySem.W.Frag) (O : Av) (H : Hp) (x : Xn) (c : Value) (dd : Option Addr) : Prop := c = .ref (He.ga K x.cls) ∧ match x.pl with
  | none => dd = none
  | some (ns, vs) => ∃ dx fs, dd = some dx ∧ H dx = some (.xd fs) ∧ fs.map (·.1) = ns ∧ DenL K O H vs (fs.map (·.2))
def PostE (K : PySem.W.Frag) (H0 : H0T) (O0 : Av) (W : WX) (σ : L2.St) (H : Hp) (O : Av) (Q : VK) : RE → Prop
  | .ok k d e => ∀ (v : V) (H' : Hp) (O' : Av), Rel K H0 O0 e σ H' O' → StepE O H O' H' → KOk K H0 O' H' σ e k d v → Q v H'
  | .ex x e => ∀ (H' : Hp) (O' : Av) (c : Value) (dd : Option Addr), Rel K H0 O0 e σ H' O' → StepE O H O' H' → XOk K O' H' x c dd → W c dd σ H'
  | .no => False
def tV (K : PySem.W.Frag) (H0 : H0T) (O0 : Av) (W : WX) (f : VEnv → RE) : TE := fun σ H Q => ∃ env O, Rel K H0 O0 env σ H O ∧ PostE K H0 O0 W σ H O Q (f env)
/-- H0 fits: the handled exception's address -/
def HX (X : Cx) (H0 : H0T) : Prop := X.calm = false → ∀ a oe rest, X.A.handled = some (.ref a) → X.pn = (a, oe) :: rest → H0.x = a ∧ H0.o = some oe
def VE (X : Cx) (W : WX) (e : Expr) (f : VEnv → RE) : Prop := ∀ (H0 : H0T) (O0 : Av), HX X H0 → PE X e (tV X.K H0 O0 W f)
theorem PE.imp {X : Cx} {e : Expr} {t t' : TE} (h : PE X e t) (i : ∀ σ H Q, t' σ H Q → t σ H Q) : PE X e t' := ⟨fun pins s σ H Q I q => h.run pins s σ H Q I (i σ H Q q)⟩

def RE.bind (r : RE) (g : Kd → D → VEnv → RE) : RE := match r with
  | .ok k d e => g k d e
  | .ex x e => .ex x e
  | .no => .no
def RE.rel : RE → RE
  | .ok .fr d e => .ok .sh d e
  | r => r
def RE.shr : RE → RE
  | .ok .fr d e => .ok .sh d e
  | .ok (.own i) d e => .ok .sh d (e.set i (some (.sh, d)))
  | .ok .tnt d e => if flat d then .ok .sh d e else .no
  | r => r
section
variable {K : PySem.W.Frag} {H0 : H0T} {H H' H1 : Hp} {O0 O O' O1 : Av} {W : WX} {env e : VEnv} {σ : L2.St} {Q : VK} {fa fb : VEnv → RE}
theorem PostE.from (st : StepE O H O1 H1) {r : RE} (h : PostE K H0 O0 W σ H O Q r) : PostE K H0 O0 W σ H1 O1 Q r := by
  cases r with
  | ok k d e => exact fun v H' O' R s k => h v H' O' R (st.trans s) k
  | ex x e => exact fun H' O' c dd R s => h H' O' c dd R (st.trans s)
  | no => exact h
/-- .. the state's step told -/
theorem Post_bind {g : Kd → D → VEnv → RE} {R : V → Hp → Prop} {r : RE} (h : PostE K H0 O0 W σ H O Q (r.bind g))
    (hr : ∀ k d e v H1 O1, Rel K H0 O0 e σ H1 O1 → StepE O H O1 H1 → KOk K H0 O1 H1 σ e k d v → PostE K H0 O0 W σ H1 O1 Q (g k d e) → R v H1) : PostE K H0 O0 W σ H O R r := by
  cases r with
  | ok k d e1 => exact fun v H' O' R' s k' => hr k d e1 v H' O' R' s k' (PostE.from s h)
  | ex x e1 => exact h
  | no => exact h
theorem tV_bind {g : Kd → D → VEnv → RE} {R : V → Hp → Prop} (h : tV K H0 O0 W (fun env => (fa env).bind g) σ H Q)
    (hr : ∀ k d e v H1 O1, Rel K H0 O0 e σ H1 O1 → KOk K H0 O1 H1 σ e k d v → PostE K H0 O0 W σ H1 O1 Q (g k d e) → R v H1) : tV K H0 O0 W fa σ H R := by
  obtain ⟨env, O, Rl, post⟩ := h
  exact ⟨env, O, Rl, Post_bind post fun k d e v H1 O1 R' _ k' p => hr k d e v H1 O1 R' k' p⟩
theorem set_self {α : Type} : ∀ {l : List α} {i : Nat} {x : α}, l[i]? = some x → l.set i x = l
  | [], _, _, h => by simp at h
  | a :: l, 0, x, h => by simp at h; subst h; rfl
  | a :: l, i + 1, x, h => by
    rw [List.set_cons_succ, set_self (by simpa using h)]
theorem set_set {α : Type} (l : List α) (i : Nat) (x y : α) : (l.set i x).set i y = l.set i y := by simp
/-- a new list is let go: it is shared from here -/
theorem rel_fr {d : D} {v : V} (R : Rel K H0 O0 e σ H' O') (st : StepE O H O' H') (k : KOk K H0 O' H' σ e .fr d v) :
    ∃ O'', Rel K H0 O0 e σ H' O'' ∧ StepE O H O'' H' ∧ Den K O'' H' d v := by
  obtain ⟨p, e1, hO, h0, hc, hn⟩ := k
  subst e1
  refine ⟨fun a => O' a ∧ a ≠ p, R.drop h0 hn, ⟨st.keep, fun a z => st.grow a z.1⟩, ?_⟩
  cases d with
  | lst ds =>
    obtain ⟨xs, h1, h2⟩ := hc
    simp only [Den]
    exact ⟨p, xs, rfl, fun z => z.2 rfl, h1, DenL.step ⟨fun a o n q => q, fun a z => .inl z.1⟩ ds xs h2⟩
  | _ => exact hc.elim
/-- a list of ours is shared from here -/
theorem rel_own {d : D} {v : V} {i : Nat} (R : Rel K H0 O0 e σ H' O') (st : StepE O H O' H') (k : KOk K H0 O' H' σ e (.own i) d v) :
    ∃ O'', Rel K H0 O0 (e.set i (some (.sh, d))) σ H' O'' ∧ StepE O H O'' H' ∧ Den K O'' H' d v := by
  obtain ⟨e1, e2⟩ := k
  obtain ⟨v', e1', p, ev, hO, h0, hc⟩ := R.slot i _ e2
  rw [e1] at e1'
  cases e1'
  subst ev
  have R1 : Rel K H0 O0 (e.set i none) σ H' O' := by
    have q := R.unset (i := i) (o := some (.ref p))
    rwa [set_self e1] at q
  have R2 := R1.drop (p := p) h0 fun j z ez => by
    have nj : i ≠ j := fun z' => by
      subst z'
      rw [List.getElem?_set_self (List.getElem?_eq_some_iff.mp e2).1] at ez
      cases ez
    rw [List.getElem?_set_ne nj] at ez
    exact R.dis i j d z p nj e2 ez e1
  have hd : Den K (fun a => O' a ∧ a ≠ p) H' d (.ref p) := by
    cases d with
    | lst ds =>
      obtain ⟨xs, h1, h2⟩ := hc
      simp only [Den]
      exact ⟨p, xs, rfl, fun z => z.2 rfl, h1, DenL.step ⟨fun a o n q => q, fun a z => .inl z.1⟩ ds xs h2⟩
    | _ => exact hc.elim
  refine ⟨fun a => O' a ∧ a ≠ p, ?_, ⟨st.keep, fun a z => st.grow a z.1⟩, hd⟩
  have R3 := R2.set (i := i) (v := .ref p) (s := (.sh, d)) hd (fun z => by cases z)
  rw [set_set, set_self e1] at R3
  exact R3
theorem Post_rel {r : RE} (h : PostE K H0 O0 W σ H O Q r.rel) : PostE K H0 O0 W σ H O Q r := by
  cases r with
  | ok k d e1 =>
    cases k with
    | fr =>
      intro v H' O' R st k
      obtain ⟨O'', R', s', hd⟩ := rel_fr R st k
      exact h v H' O'' R' s' hd
    | _ => exact h
  | _ => exact h
theorem Post_shr {r : RE} (h : PostE K H0 O0 W σ H O Q r.shr) : PostE K H0 O0 W σ H O Q r := by
  cases r with
  | ok k d e1 =>
    cases k with
    | fr =>
      intro v H' O' R st k
      obtain ⟨O'', R', s', hd⟩ := rel_fr R st k
      exact h v H' O'' R' s' hd
    | own i =>
      intro v H' O' R st k
      obtain ⟨O'', R', s', hd⟩ := rel_own R st k
      exact h v H' O'' R' s' hd
    | tnt =>
      intro v H' O' R st k
      have h' : PostE K H0 O0 W σ H O Q (if flat d then .ok .sh d e1 else .no) := h
      by_cases hf : flat d = true
      · rw [if_pos hf] at h'
        exact h' v H' O' R st (Den.flat R.mt d v hf (R.tnt k))
      · rw [if_neg hf] at h'
        exact h'.elim
    | sh => exact h
  | _ => exact h
theorem tV_rel (h : tV K H0 O0 W (fun env => (fa env).rel) σ H Q) : tV K H0 O0 W fa σ H Q := let ⟨env, O, R, p⟩ := h; ⟨env, O, R, Post_rel p⟩
theorem tV_shr (h : tV K H0 O0 W (fun env => (fa env).shr) σ H Q) : tV K H0 O0 W fa σ H Q := let ⟨env, O, R, p⟩ := h; ⟨env, O, R, Post_shr p⟩

/-! ### values that are kept while others are made -/
theorem own_den {a : Addr} {d : D} (h : OwnC K O H a d) : Den K noA H d (.ref a) := by
  cases d with
  | lst ds =>
    obtain ⟨xs, h1, h2⟩ := h
    simp only [Den]
    exact ⟨a, xs, rfl, fun z => z, h1, DenL.step ⟨fun a o n q => q, fun a z => z.elim⟩ ds xs h2⟩
  | _ => exact h.elim
def Held (K : PySem.W.Frag) (H0 : H0T) (O : Av) (H : Hp) (k : Kd) (d : D) (v : V) : Prop := match k with
  | .sh => Den K O H d v
  | .tnt => Den K noA H0 d v
  | .own _ => ∃ a, v = .ref a ∧ OwnC K O H a d
  | .fr => False
theorem Held.step (st : StepE O H O' H') {k : Kd} {d : D} {v : V} (h : Held K H0 O H k d v) : Held K H0 O' H' k d v := by
  cases k with
  | sh => exact Den.step st.st d v h
  | tnt => exact h
  | own i =>
    obtain ⟨a, e, c⟩ := h
    exact ⟨a, e, OwnC.step st.st (fun o => st.keep a o) c⟩
  | fr => exact h
theorem Held.of {k : Kd} {d : D} {v : V} (R : Rel K H0 O0 e σ H O) (h : KOk K H0 O H σ e k d v) (hk : k ≠ .fr) : Held K H0 O H k d v := by
  cases k with
  | sh => exact h
  | tnt => exact h
  | own i =>
    obtain ⟨e1, e2⟩ := h
    obtain ⟨v', e3, a, ev, hO, h0, hc⟩ := R.slot _ _ e2
    rw [e1] at e3
    cases e3
    exact ⟨a, ev, hc⟩
  | fr => exact absurd rfl hk
theorem Held.den {k : Kd} {d : D} {v : V} (h : Held K H0 O H k d v) (R : Rel K H0 O0 e σ H O) : Den K noA H d v := by
  cases k with
  | sh => exact R.weak h
  | tnt => exact R.tnt h
  | fr => exact h.elim
  | own i =>
    obtain ⟨a, ev, hc⟩ := h
    subst ev
    exact own_den hc
/-- a sequence, its items to be kept -/
def SeqOk (K : PySem.W.Frag) (O : Av) (H : Hp) : D → V → Prop
  | .lst ds, v => ∃ a xs, v = .ref a ∧ H a = some (.lst xs) ∧ DenL K O H ds xs
  | .tup ds, v => ∃ a xs, v = .ref a ∧ (H a = some (.tup xs) ∨ KT K a xs) ∧ DenL K O H ds xs
  | .scr ns, v => ∃ a, v = .ref a ∧ SqL K H a (ns.map V.int)
  | _, _ => False
def flatI : D → Bool
  | .lst ds => flatL ds
  | .tup ds => flatL ds
  | .scr _ => true
  | _ => false
def isSeq : D → Bool
  | .lst _ => true
  | .tup _ => true
  | .scr _ => true
  | _ => false
theorem seq_tup {a : Addr} {xs : List V} (h : (¬ O a ∧ H a = some (.tup xs)) ∨ KT K a xs) : H a = some (.tup xs) ∨ KT K a xs := h.elim (fun h => .inl h.2) .inr
theorem sqT_of {a : Addr} {xs : List V} (h : H a = some (.tup xs) ∨ KT K a xs) : SqT K H a xs := h.elim (fun h => .inl (.inl h)) .inr
theorem tup_den (R : Rel K H0 O0 e σ H O) {a : Addr} {xs : List V} {ds : List D} (h : H a = some (.tup xs) ∨ KT K a xs) (r : DenL K O H ds xs) : Den K O H (.tup ds) (.ref a) := by
  simp only [Den]
  refine ⟨a, xs, rfl, h.elim (fun h => .inl ⟨fun z => ?_, h⟩) .inr, r⟩
  have m := R.mt a z
  rw [h] at m
  exact m
theorem seq_scr {a : Addr} {ns : List Int} (h : (¬ O a ∧ ∃ o, H a = some (.frz o (.lst (ns.map V.int)))) ∨ KL K a (ns.map V.int)) : SqL K H a (ns.map V.int) := h.elim (fun h => .inl (.inr h.2)) .inr
theorem seq_den {d : D} {v : V} (h : Den K O H d v) (hs : isSeq d = true) : SeqOk K O H d v := by
  cases d with
  | lst ds =>
    simp only [Den] at h
    obtain ⟨a, xs, e, _, h1, h2⟩ := h
    exact ⟨a, xs, e, h1, h2⟩
  | tup ds =>
    simp only [Den] at h
    obtain ⟨a, xs, e, h1, h2⟩ := h
    exact ⟨a, xs, e, seq_tup h1, h2⟩
  | scr ns =>
    simp only [Den] at h
    obtain ⟨a, e, h1⟩ := h
    exact ⟨a, e, seq_scr h1⟩
  | _ => cases hs
/-- what may become a part of new things: a sequence by its items, another value as it is -/
def argA (k : Kd) (d : D) : Bool := match k with
  | .tnt => if isSeq d then flatI d else true
  | _ => true
def ArgOk (K : PySem.W.Frag) (O : Av) (H : Hp) (d : D) (v : V) : Prop := if isSeq d then SeqOk K O H d v else Den K noA H d v
theorem argA_ok {k : Kd} {d : D} {v : V} (h : Held K H0 O H k d v) (R : Rel K H0 O0 e σ H O) (hh : argA k d = true) : ArgOk K O H d v := by
  unfold ArgOk
  by_cases hs : isSeq d = true
  · rw [if_pos hs]
    cases k with
    | sh => exact seq_den h hs
    | tnt =>
      unfold argA at hh
      dsimp only at hh
      rw [if_pos hs] at hh
      have w := R.tnt h
      cases d with
      | lst ds =>
        simp only [Den] at w
        obtain ⟨a, xs, e, _, h1, h2⟩ := w
        exact ⟨a, xs, e, h1, DenL.flat R.mt ds xs hh h2⟩
      | tup ds =>
        simp only [Den] at w
        obtain ⟨a, xs, e, h1, h2⟩ := w
        exact ⟨a, xs, e, seq_tup h1, DenL.flat R.mt ds xs hh h2⟩
      | scr ns =>
        simp only [Den] at w
        obtain ⟨a, e, h1⟩ := w
        exact ⟨a, e, seq_scr h1⟩
      | _ => cases hs
    | fr => exact h.elim
    | own i =>
      obtain ⟨a, ev, hc⟩ := h
      cases d with
      | lst ds =>
        obtain ⟨xs, h1, h2⟩ := hc
        exact ⟨a, xs, ev, h1, h2⟩
      | _ => exact hc.elim
  · rw [if_neg hs]
    exact h.den R
theorem nofr_rel {r : RE} {k : Kd} {d : D} {e : VEnv} (h : r.rel = .ok k d e) : k ≠ .fr := by
  intro z
  subst z
  cases r with
  | ok k' d' e' => cases k' <;> simp [RE.rel] at h
  | _ => simp [RE.rel] at h
theorem nofr_shr {r : RE} {k : Kd} {d : D} {e : VEnv} (h : r.shr = .ok k d e) : k = .sh := by
  cases r with
  | ok k' d' e' =>
    cases k' with
    | tnt =>
      simp only [RE.shr] at h
      split at h
      · cases h; rfl
      · cases h
    | _ => simp [RE.shr] at h; exact h.1.symm
  | _ => simp [RE.shr] at h
/-- one value, then what is done with it -/
def v1 (G : Kd → D → VEnv → RE) (fa : VEnv → RE) : VEnv → RE := fun env => (fa env).rel.bind G
def v2 (G : Kd → D → Kd → D → VEnv → RE) (fa fb : VEnv → RE) : VEnv → RE := fun env => (fa env).rel.bind fun k1 d1 e1 => (fb e1).rel.bind fun k2 d2 e2 => G k1 d1 k2 d2 e2
theorem Post_rbind {g : Kd → D → VEnv → RE} {R : V → Hp → Prop} {r : RE} (h : PostE K H0 O0 W σ H O Q (r.rel.bind g))
    (hr : ∀ k d e v H1 O1, Rel K H0 O0 e σ H1 O1 → StepE O H O1 H1 → Held K H0 O1 H1 k d v → PostE K H0 O0 W σ H1 O1 Q (g k d e) → R v H1) : PostE K H0 O0 W σ H O R r := by
  refine Post_rel ?_
  cases e : r.rel with
  | ok k d e1 =>
    rw [e] at h
    exact fun v H1 O1 R1 s1 hk => hr k d e1 v H1 O1 R1 s1 (Held.of R1 hk (nofr_rel e)) (PostE.from s1 h)
  | ex x e1 => rw [e] at h; exact h
  | no => rw [e] at h; exact h
theorem tV1 {G : Kd → D → VEnv → RE} {R : V → Hp → Prop} (h : tV K H0 O0 W (v1 G fa) σ H Q)
    (hr : ∀ k1 d1 e1 x H1 O1, Rel K H0 O0 e1 σ H1 O1 → Held K H0 O1 H1 k1 d1 x → PostE K H0 O0 W σ H1 O1 Q (G k1 d1 e1) → R x H1) : tV K H0 O0 W fa σ H R := by
  obtain ⟨env, O, Rl, post⟩ := h
  exact ⟨env, O, Rl, Post_rbind post fun k d e v H1 O1 R1 _ hk p => hr k d e v H1 O1 R1 hk p⟩
theorem tV2 {G : Kd → D → Kd → D → VEnv → RE} {R : V → V → Hp → Prop} (h : tV K H0 O0 W (v2 G fa fb) σ H Q)
    (hr : ∀ k1 d1 k2 d2 e2 x y H2 O2, Rel K H0 O0 e2 σ H2 O2 → Held K H0 O2 H2 k1 d1 x → Held K H0 O2 H2 k2 d2 y → PostE K H0 O0 W σ H2 O2 Q (G k1 d1 k2 d2 e2) → R x y H2) :
    tV K H0 O0 W fa σ H fun x H1 => tV K H0 O0 W fb σ H1 fun y H2 => R x y H2 := by
  obtain ⟨env, O, Rl, post⟩ := h
  refine ⟨env, O, Rl, Post_rbind post fun k1 d1 e1 x H1 O1 R1 _ h1 p1 => ⟨e1, O1, R1, Post_rbind p1 fun k2 d2 e2 y H2 O2 R2 s2 h2 p2 => ?_⟩⟩
  exact hr k1 d1 k2 d2 e2 x y H2 O2 R2 (Held.step s2 h1) h2 p2
end
end Vi

set_option Elab.async false
set_option linter.all false
set_option maxRecDepth 100000
namespace Vi
open PySem PySem.Spec PyProof.Rows L2

section
variable {X : Cx} {W : WX} {pos p : Pos}
/-! ### names, constants -/
def vVar (i : Nat) : VEnv → RE := fun env => match env[i]? with
  | some (some (.sh, d)) => .ok .sh d env
  | some (some (.tnt, d)) => if flat d then .ok .sh d env else .ok .tnt d env
  | some (some (.own, d)) => .ok (.own i) d env
  | _ => .no
theorem Post_now {K : PySem.W.Frag} {H0 : H0T} {H : Hp} {O0 O : Av} {W : WX} {σ : L2.St} {Q : VK} {k : Kd} {d : D} {e : VEnv} {v : V} (h : PostE K H0 O0 W σ H O Q (.ok k d e)) (R : Rel K H0 O0 e σ H O) (hk : KOk K H0 O H σ e k d v) : Q v H := h v H O R (StepE.refl _ _) hk
theorem ve_var {i : Nat} {x : Str} (hN : X.N[i]? = some x := by rfl) (hv : Vis X.env.scope x := by first | exact Or.inl rfl | exact Or.inr (Or.inl rfl) | exact Or.inr (Or.inr rfl)) (hd : (x == ("__debug__" : Str)) = false := by decide)
    (hcd : (x == ("__classdict__" : Str)) = false := by decide) : VE X W (.Name x pos) (vVar i) := fun H0 O0 hx => by
  refine PE.imp (pe_var hN hv hd hcd) fun σ H Q h => ?_
  obtain ⟨env, O, R, post⟩ := h
  unfold vVar at post
  cases e : env[i]? with
  | none => rw [e] at post; exact post.elim
  | some s =>
    cases s with
    | none => rw [e] at post; exact post.elim
    | some s =>
      obtain ⟨v, e1, hs⟩ := R.slot i s e
      refine ⟨v, e1, ?_⟩
      obtain ⟨m, d⟩ := s
      rw [e] at post
      cases m with
      | sh => exact Post_now post R hs
      | tnt =>
        have post' : PostE X.K H0 O0 W σ H O Q (if flat d then .ok .sh d env else .ok .tnt d env) := post
        by_cases hf : flat d = true
        · rw [if_pos hf] at post'
          exact Post_now post' R (Den.flat R.mt d v hf (R.tnt hs))
        · rw [if_neg hf] at post'
          exact Post_now post' R hs
      | own => exact Post_now post R ⟨e1, e⟩
      | exn => exact post.elim
def vC (d : D) : VEnv → RE := fun env => .ok .sh d env
theorem ve_con {e : Expr} {v : V} {d : D} (h : PE X e (tC v)) (hd : ∀ O H, Den X.K O H d v) : VE X W e (vC d) := fun H0 O0 hx => PE.imp h fun σ H Q ⟨env, O, R, post⟩ => Post_now post R (hd O H)
theorem ve_int {i j} : VE X W (.Constant (.int i) j pos) (vC (.int i)) := ve_con pe_int fun _ _ => by simp only [Den]
theorem ve_bl {b j} : VE X W (.Constant (.bool b) j pos) (vC (.bl b)) := ve_con pe_bl fun _ _ => by simp only [Den]
theorem ve_non {j} : VE X W (.Constant .none j pos) (vC .non) := ve_con pe_non fun _ _ => by simp only [Den]
theorem ve_str {x j} : VE X W (.Constant (.str x) j pos) (vC (.str x)) := ve_con pe_str fun _ _ => by simp only [Den]
/-- a constant of the module -/
structure Glo (X : Cx) (x : Str) (d : D) : Prop where
  gl : Gl X x
  ex : ∃ u v, X.mg x = some u ∧ RelV v u ∧ ∀ O H, Den X.K O H d v
theorem ve_glo {x : Str} {d : D} (g : Glo X x d) (hd : (x == ("__debug__" : Str)) = false := by decide) : VE X W (.Name x pos) (vC d) := by
  obtain ⟨u, v, hm, r, h⟩ := g.ex
  exact ve_con (pe_glob g.gl hm r hd) h

/-! ### operators upon scalars -/
/-- G tells what r gives of what x, y denote -/
def OpS (K : PySem.W.Frag) (r : R2) (G : D → D → Option D) : Prop := ∀ (x y z : D) (v u : V) (H : Hp) (Q : VK), G x y = some z → Den K noA H x v → Den K noA H y u → (∀ w, (∀ O, Den K O H z w) → Q w H) → r v u H Q
def vOp (G : D → D → Option D) : (VEnv → RE) → (VEnv → RE) → VEnv → RE := v2 fun _ d1 _ d2 e => match G d1 d2 with
  | some z => .ok .sh z e
  | none => .no
theorem tV_op {K : PySem.W.Frag} {H0 : H0T} {H : Hp} {O0 : Av} {σ : L2.St} {Q : VK} {fa fb : VEnv → RE} {r : R2} {G : D → D → Option D} (hG : OpS K r G) (h : tV K H0 O0 W (vOp G fa fb) σ H Q) :
    tOp r (tV K H0 O0 W fa) (tV K H0 O0 W fb) σ H Q := by
  refine tV2 h fun k1 d1 k2 d2 e2 x y H2 O2 R2 h1 h2 p => ?_
  cases q3 : G d1 d2 with
  | none => simp only [q3] at p; exact p.elim
  | some z =>
    simp only [q3] at p
    exact hG d1 d2 z x y H2 Q q3 (h1.den R2) (h2.den R2) fun w hw => Post_now p R2 (hw O2)
theorem ve_op {a b : Expr} {fa fb : VEnv → RE} {op : Operator} {r : R2} {G : D → D → Option D} (ho : OpR X (binaryOp op) r) (hG : OpS X.K r G) (ha : VE X W a fa) (hb : VE X W b fb) : VE X W (.BinOp a op b pos) (vOp G fa fb) :=
  fun H0 O0 hx => PE.imp (pe_op ho (ha H0 O0 hx) (hb H0 O0 hx)) fun σ H Q h => tV_op hG h
theorem ve_cmp {a b : Expr} {fa fb : VEnv → RE} {op : CmpOp} {r : R2} {G : D → D → Option D} (ho : OpR X (compareOp op) r) (hG : OpS X.K r G) (ha : VE X W a fa) (hb : VE X W b fb) (hm : behindInMarks op b = false) : VE X W (.Compare a [op] [b] pos) (vOp G fa fb) :=
  fun H0 O0 hx => PE.imp (pe_cmpR ho (ha H0 O0 hx) (hb H0 O0 hx) hm) fun σ H Q h => tV_op hG h
/-- ints in -/
def gI (C : Int → Int → Bool) (g : Int → Int → D) : D → D → Option D
  | .int i, .int j => if C i j then some (g i j) else none
  | _, _ => none
theorem opS_I {K : PySem.W.Frag} {C : Int → Int → Prop} {c : Int → Int → Bool} {g : Int → Int → V} {g' : Int → Int → D} (hc : ∀ i j, c i j = true → C i j) (hg : ∀ i j O H, Den K O H (g' i j) (g i j)) : OpS K (rI C g) (gI c g') := by
  intro x y z v u H Q h hx hy q
  cases x with
  | int i =>
    cases y with
    | int j =>
      simp only [Den] at hx hy
      have h' : (if c i j then some (g' i j) else none) = some z := h
      by_cases hcc : c i j = true
      · rw [if_pos hcc] at h'
        cases h'
        exact ⟨i, j, hx, hy, hc i j hcc, q _ fun O => hg i j O H⟩
      · rw [if_neg hcc] at h'
        cases h'
    | _ => cases h
  | _ => cases h
def gI0 (g : Int → Int → D) : D → D → Option D
  | .int i, .int j => some (g i j)
  | _, _ => none
theorem opS_I0 {K : PySem.W.Frag} {g : Int → Int → V} {g' : Int → Int → D} (hg : ∀ i j O H, Den K O H (g' i j) (g i j)) : OpS K (rI0 g) (gI0 g') := by
  intro x y z v u H Q h hx hy q
  cases x with
  | int i =>
    cases y with
    | int j =>
      simp only [Den] at hx hy
      cases h
      exact ⟨i, j, hx, hy, q _ fun O => hg i j O H⟩
    | _ => cases h
  | _ => cases h
variable {a b : Expr} {fa fb : VEnv → RE}
abbrev gSub := gI0 fun i j => .int (i - j)
theorem ve_sub (ha : VE X W a fa) (hb : VE X W b fb) : VE X W (.BinOp a .Sub b pos) (vOp gSub fa fb) := ve_op op_sub (opS_I0 fun _ _ _ _ => by simp only [Den]) ha hb
/-- %: the divisor positive -/
abbrev gMod := gI (fun _ j => decide (0 < j)) fun i j => .int (i % j)
theorem ve_mod (ha : VE X W a fa) (hb : VE X W b fb) : VE X W (.BinOp a .Mod b pos) (vOp gMod fa fb) := ve_op op_mod (opS_I (fun i j h => by simpa using h) fun _ _ _ _ => by simp only [Den]) ha hb
/-- //: the divisor not 0, of less than 9000 bits -/
def CDivA (_ j : Int) : Prop := j ≠ 0 ∧ j.natAbs.log2 < 9000
theorem op_fdivA : OpR X (binaryOp .FloorDiv) (rI CDivA fun i j => .int (i.fdiv j)) := opI fun _ _ _ _ _ _ _ hc q => floordiv_int hc.1 q (.inl (PyProof.noPylong_of_log2 hc.2))
abbrev gDiv := gI (fun _ j => decide (j ≠ 0) && decide (j.natAbs.log2 < 9000)) fun i j => .int (i.fdiv j)
theorem ve_fdiv (ha : VE X W a fa) (hb : VE X W b fb) : VE X W (.BinOp a .FloorDiv b pos) (vOp gDiv fa fb) := ve_op op_fdivA (opS_I (fun i j h => by simpa [CDivA] using h) fun _ _ _ _ => by simp only [Den]) ha hb
abbrev gLt := gI0 fun i j => .bl (decide (i < j))
abbrev gLe := gI0 fun i j => .bl (decide (i ≤ j))
abbrev gGt := gI0 fun i j => .bl (decide (j < i))
abbrev gGe := gI0 fun i j => .bl (decide (j ≤ i))
theorem ve_lt (ha : VE X W a fa) (hb : VE X W b fb) : VE X W (.Compare a [.Lt] [b] pos) (vOp gLt fa fb) := ve_cmp op_lt (opS_I0 fun _ _ _ _ => by simp only [Den]) ha hb (nomark _)
theorem ve_le (ha : VE X W a fa) (hb : VE X W b fb) : VE X W (.Compare a [.LtE] [b] pos) (vOp gLe fa fb) := ve_cmp op_le (opS_I0 fun _ _ _ _ => by simp only [Den]) ha hb (nomark _)
theorem ve_gt (ha : VE X W a fa) (hb : VE X W b fb) : VE X W (.Compare a [.Gt] [b] pos) (vOp gGt fa fb) := ve_cmp op_gt (opS_I0 fun _ _ _ _ => by simp only [Den]) ha hb (nomark _)
theorem ve_ge (ha : VE X W a fa) (hb : VE X W b fb) : VE X W (.Compare a [.GtE] [b] pos) (vOp gGe fa fb) := ve_cmp op_ge (opS_I0 fun _ _ _ _ => by simp only [Den]) ha hb (nomark _)
end
end Vi

set_option Elab.async false
set_option linter.all false
set_option maxRecDepth 100000
namespace Vi
open PySem PySem.Spec PyProof.Rows L2

section
variable {K : PySem.W.Frag} {H0 : H0T} {H H' H1 : Hp} {O0 O O' O1 : Av} {W : WX} {env e : VEnv} {σ : L2.St} {Q : VK}
/-- what an operator gives: a scalar, a new list, a new tuple -/
inductive OR where
  | sc (d : D)
  | fl (ds : List D)
  | tp (ds : List D)
  | no
def OR.fin (r : OR) (e : VEnv) : RE := match r with
  | .sc d => .ok .sh d e
  | .fl ds => .ok .fr (.lst ds) e
  | .tp ds => .ok .sh (.tup ds) e
  | .no => .no
theorem Post_new_list {ds : List D} {xs : List V} {p : Addr} (h : PostE K H0 O0 W σ H O Q (.ok .fr (.lst ds) e)) (R : Rel K H0 O0 e σ H O) (hp : H p = none) (hd : DenL K O H ds xs) : Q (.ref p) (upd H p (.lst xs)) := by
  have k : ∀ a o, H a = some o → upd H p (.lst xs) a = some o := fun a o q => by
    rw [upd_ne (ne_of_none q hp)]
    exact q
  have st : StepE O H (fun a => O a ∨ a = p) (upd H p (.lst xs)) := ⟨k, fun a z => z.elim .inl fun e => .inr (by rw [e]; exact hp)⟩
  refine h _ _ _ (R.grow hp k (by rw [upd_same]; exact True.intro)) st ⟨p, rfl, .inr rfl, R.h0 hp, ⟨xs, upd_same, DenL.step st.st ds xs hd⟩, fun i z e1 e2 => ?_⟩
  obtain ⟨v', e3, a, ev, hO, _⟩ := R.slot i _ e1
  rw [e2] at e3
  cases e3
  cases ev
  exact R.noO hp hO
theorem Post_new_tup {ds : List D} {xs : List V} {p : Addr} (h : PostE K H0 O0 W σ H O Q (.ok .sh (.tup ds) e)) (R : Rel K H0 O0 e σ H O) (hp : H p = none) (hd : DenL K O H ds xs) : Q (.ref p) (upd H p (.tup xs)) := by
  have k : ∀ a o, H a = some o → upd H p (.tup xs) a = some o := fun a o q => by
    rw [upd_ne (ne_of_none q hp)]
    exact q
  have st : StepE O H O (upd H p (.tup xs)) := ⟨k, fun a z => .inl z⟩
  refine h _ _ _ (R.kept k) st ?_
  show Den K O _ (.tup ds) _
  simp only [Den]
  exact ⟨p, xs, rfl, .inl ⟨R.noO hp, upd_same⟩, DenL.step st.st ds xs hd⟩
theorem Post_sc {d : D} {v : V} (h : PostE K H0 O0 W σ H O Q (.ok .sh d e)) (R : Rel K H0 O0 e σ H O) (hd : Den K O H d v) : Q v H := Post_now h R hd
/-- G tells what r makes of what x, y denote -/
def OpA (K : PySem.W.Frag) (r : R2) (G : D → D → OR) : Prop := ∀ (H0 : H0T) (O0 : Av) (W : WX) (σ : L2.St) (H : Hp) (O : Av) (e : VEnv) (Q : VK) (x y : D) (v u : V),
  Rel K H0 O0 e σ H O → ArgOk K O H x v → ArgOk K O H y u → PostE K H0 O0 W σ H O Q ((G x y).fin e) → r v u H Q
def vOpA (G : D → D → OR) : (VEnv → RE) → (VEnv → RE) → VEnv → RE := v2 fun k1 d1 k2 d2 e => match argA k1 d1 && argA k2 d2 with
  | true => (G d1 d2).fin e
  | false => .no
theorem tV_opA {fa fb : VEnv → RE} {r : R2} {G : D → D → OR} (hG : OpA K r G) (h : tV K H0 O0 W (vOpA G fa fb) σ H Q) : tOp r (tV K H0 O0 W fa) (tV K H0 O0 W fb) σ H Q := by
  refine tV2 h fun k1 d1 k2 d2 e2 x y H2 O2 R2 h1 h2 p => ?_
  cases q : argA k1 d1 && argA k2 d2 with
  | false => simp only [q] at p; exact p.elim
  | true =>
    simp only [q] at p
    obtain ⟨q1, q2⟩ := Bool.and_eq_true_iff.mp q
    exact hG H0 O0 W σ H2 O2 e2 Q d1 d2 x y R2 (argA_ok h1 R2 q1) (argA_ok h2 R2 q2) p
def OR.when (b : Bool) (r : OR) : OR := match b with
  | true => r
  | false => .no
theorem Post_when {b : Bool} {r : OR} (h : PostE K H0 O0 W σ H O Q ((OR.when b r).fin e)) : b = true ∧ PostE K H0 O0 W σ H O Q (r.fin e) := by
  cases b with
  | true => exact ⟨rfl, h⟩
  | false => exact h.elim
end

section
variable {X : Cx} {W : WX} {pos p : Pos} {a b c : Expr} {fa fb fc : VEnv → RE}
theorem ve_opA {op : Operator} {r : R2} {G : D → D → OR} (ho : OpR X (binaryOp op) r) (hG : OpA X.K r G) (ha : VE X W a fa) (hb : VE X W b fb) : VE X W (.BinOp a op b pos) (vOpA G fa fb) :=
  fun H0 O0 hx => PE.imp (pe_op ho (ha H0 O0 hx) (hb H0 O0 hx)) fun σ H Q h => tV_opA hG h
/-! ### + -/
def lineN : Nat := 16777216
theorem lineN_eq : lineN = sizeLine := by rw [sizeLine_eq]; rfl
def gAdd : D → D → OR
  | .int i, .int j => .sc (.int (i + j))
  | .str s, .str t => .when (decide (s.length + t.length ≤ lineN)) (.sc (.str (s ++ t)))
  | .lst xs, .lst ys => .when (decide (xs.length + ys.length ≤ lineN)) (.fl (xs ++ ys))
  | .tup xs, .tup ys => .when (decide (xs.length + ys.length ≤ lineN)) (.tp (xs ++ ys))
  | _, _ => .no
def rAddA (K : PySem.W.Frag) : R2 := fun x y H Q => rI0 (fun i j => .int (i + j)) x y H Q ∨ (∃ i j, x = .str i ∧ y = .str j ∧ i.length + j.length ≤ sizeLine ∧ Q (.str (i ++ j)) H) ∨ rCat x y H Q ∨ rCatA K x y H Q
theorem op_addA : OpR X (binaryOp .Add) (rAddA X.K) := op_add.or (op_add_str.or (op_cat.or op_catA))
theorem len_ok {n : Nat} (h : decide (n ≤ lineN) = true) : n ≤ sizeLine := by rw [← lineN_eq]; exact of_decide_eq_true h
theorem opA_add {K : PySem.W.Frag} : OpA K (rAddA K) gAdd := by
  intro H0 O0 W σ H O e Q x y v u R a b p
  cases x with
  | int i =>
    cases y with
    | int j =>
      simp only [ArgOk, isSeq, Bool.false_eq_true, if_false, Den] at a b
      exact .inl ⟨i, j, a, b, Post_sc p R (by simp only [Den])⟩
    | _ => exact p.elim
  | str i =>
    cases y with
    | str j =>
      simp only [ArgOk, isSeq, Bool.false_eq_true, if_false, Den] at a b
      obtain ⟨hl, p⟩ := Post_when p
      exact .inr (.inl ⟨i, j, a, b, len_ok hl, Post_sc p R (by simp only [Den])⟩)
    | _ => exact p.elim
  | lst xs =>
    cases y with
    | lst ys =>
      simp only [ArgOk, isSeq, if_true, SeqOk] at a b
      obtain ⟨a1, vs, rfl, h1, h2⟩ := a
      obtain ⟨b1, us, rfl, g1, g2⟩ := b
      obtain ⟨hl, p⟩ := Post_when p
      exact .inr (.inr (.inl ⟨a1, b1, vs, us, rfl, rfl, h1, g1, by rw [← h2.length, ← g2.length]; exact len_ok hl, fun q hq => Post_new_list p R hq (h2.append g2)⟩))
    | _ => exact p.elim
  | tup xs =>
    cases y with
    | tup ys =>
      simp only [ArgOk, isSeq, if_true, SeqOk] at a b
      obtain ⟨a1, vs, rfl, h1, h2⟩ := a
      obtain ⟨b1, us, rfl, g1, g2⟩ := b
      obtain ⟨hl, p⟩ := Post_when p
      refine .inr (.inr (.inr ⟨a1, b1, vs, us, rfl, rfl, sqT_of h1, sqT_of g1, by rw [← h2.length, ← g2.length]; exact len_ok hl, fun e1 => ?_, fun _ e2 => ?_, fun _ _ q hq => Post_new_tup p R hq (h2.append g2)⟩))
      · subst e1
        have ex : xs = [] := by have := h2.length; simpa using this
        subst ex
        exact Post_sc p R (tup_den R g1 g2)
      · subst e2
        have ex : ys = [] := by have := g2.length; simpa using this
        subst ex
        have p' : PostE K H0 O0 W σ H O Q (.ok .sh (.tup (xs ++ [])) e) := p
        rw [List.append_nil] at p'
        exact Post_sc p' R (tup_den R h1 h2)
    | _ => exact p.elim
  | _ => exact p.elim
theorem ve_add (ha : VE X W a fa) (hb : VE X W b fb) : VE X W (.BinOp a .Add b pos) (vOpA gAdd fa fb) := ve_opA op_addA opA_add ha hb
end
end Vi

set_option Elab.async false
set_option linter.all false
set_option maxRecDepth 100000
namespace Vi
open PySem PySem.Spec PyProof.Rows L2

/-! ### data as the library's -/
mutual
def py : D → PyData
  | .non => .none
  | .bl b => .bool b
  | .int i => .int i
  | .str s => .str s
  | .lst ds => .list (pyL ds)
  | .tup ds => .tuple (pyL ds)
  | .scr ns => .list (ns.map PyData.int)
  | _ => .none
def pyL : List D → List PyData
  | [] => []
  | d :: ds => py d :: pyL ds
end
mutual
/-- no object, no def within -/
def plain : D → Bool
  | .opq _ => false
  | .cls _ => false
  | .ty _ => false
  | .obj _ _ _ => false
  | .lst ds => plainL ds
  | .tup ds => plainL ds
  | _ => true
def plainL : List D → Bool
  | [] => true
  | d :: ds => plain d && plainL ds
end
section
variable {K : PySem.W.Frag} {H : Hp} {O : Av}
theorem dp_ints : ∀ ns : List Int, DpAll K H (ns.map V.int) (ns.map PyData.int)
  | [] => .nil
  | n :: ns => .cons (.int n) (dp_ints ns)
mutual
theorem den_dp : ∀ (d : D) (v : V), plain d = true → Den K O H d v → Dp K H v (py d)
  | .non, v, _, h => by
    simp only [Den] at h
    subst h
    exact .non
  | .bl b, v, _, h => by
    simp only [Den] at h
    subst h
    exact .bl b
  | .int i, v, _, h => by
    simp only [Den] at h
    subst h
    exact .int i
  | .str s, v, _, h => by
    simp only [Den] at h
    subst h
    exact .str s
  | .opq u, v, f, h => by simp [plain] at f
  | .cls u, v, f, h => by simp [plain] at f
  | .ty u, v, f, h => by simp [plain] at f
  | .obj c ns vs, v, f, h => by simp [plain] at f
  | .scr ns, v, _, h => by
    simp only [Den] at h
    obtain ⟨a, rfl, h⟩ := h
    simp only [py]
    exact .lst (seq_scr h) (dp_ints ns)
  | .lst ds, v, f, h => by
    simp only [Den] at h
    obtain ⟨a, xs, rfl, _, h1, h2⟩ := h
    simp only [py]
    exact .lst (SqL.of h1) (denL_dp ds xs (by simpa only [plain] using f) h2)
  | .tup ds, v, f, h => by
    simp only [Den] at h
    obtain ⟨a, xs, rfl, h1, h2⟩ := h
    simp only [py]
    exact .tup (sqT_of (seq_tup h1)) (denL_dp ds xs (by simpa only [plain] using f) h2)
theorem denL_dp : ∀ (ds : List D) (xs : List V), plainL ds = true → DenL K O H ds xs → DpAll K H xs (pyL ds)
  | [], xs, _, h => by
    simp only [DenL] at h
    subst h
    exact .nil
  | d :: ds, xs, f, h => by
    simp only [DenL] at h
    obtain ⟨x, r, rfl, h1, h2⟩ := h
    simp only [plainL, Bool.and_eq_true] at f
    exact .cons (den_dp d x f.1 h1) (denL_dp ds r f.2 h2)
end
end
/-- x == y -/
def eqD (x y : D) : Option D := if plain x && (plain y && (SeqAt.shaped (py x) && SeqAt.shaped (py y))) then some (.bl (PyData.eqv (py x) (py y))) else none
def neD (x y : D) : Option D := if plain x && (plain y && (SeqAt.shaped (py x) && SeqAt.shaped (py y))) then some (.bl (!PyData.eqv (py x) (py y))) else none
section
variable {X : Cx} {W : WX} {pos p : Pos} {a b c : Expr} {fa fb fc : VEnv → RE}
theorem opS_eq {K : PySem.W.Frag} : OpS K (rEqD K) eqD := by
  intro x y z v u H Q h hx hy q
  unfold eqD at h
  split at h
  · rename_i f
    cases h
    simp only [Bool.and_eq_true] at f
    exact ⟨py x, py y, den_dp x v f.1 hx, den_dp y u f.2.1 hy, f.2.2.1, f.2.2.2, q _ fun O => by simp only [Den]⟩
  · cases h
theorem opS_ne {K : PySem.W.Frag} : OpS K (rNeD K) neD := by
  intro x y z v u H Q h hx hy q
  unfold neD at h
  split at h
  · rename_i f
    cases h
    simp only [Bool.and_eq_true] at f
    exact ⟨py x, py y, den_dp x v f.1 hx, den_dp y u f.2.1 hy, f.2.2.1, f.2.2.2, q _ fun O => by simp only [Den]⟩
  · cases h
theorem ve_eq (hu : X.A.units + 64 < cLine) (ha : VE X W a fa) (hb : VE X W b fb) : VE X W (.Compare a [.Eq] [b] pos) (vOp eqD fa fb) := ve_cmp (op_eqD hu) opS_eq ha hb (nomark _)
theorem ve_ne (hu : X.A.units + 64 < cLine) (ha : VE X W a fa) (hb : VE X W b fb) : VE X W (.Compare a [.NotEq] [b] pos) (vOp neD fa fb) := ve_cmp (op_neD hu) opS_ne ha hb (nomark _)
/-! ### is None -/
def isNone : D → Bool
  | .non => true
  | _ => false
def isN : D → D → Option D
  | x, .non => some (.bl (isNone x))
  | _, _ => none
def notN : D → D → Option D
  | x, .non => some (.bl (!isNone x))
  | _, _ => none
def notOpq : D → Bool
  | .opq _ => false
  | _ => true
theorem isN_den {K : PySem.W.Frag} {O : Av} {H : Hp} {d : D} {v : V} (h : Den K O H d v) (ho : notOpq d = true) : decide (v = .non) = isNone d := by
  cases d <;> simp only [Den] at h
  case non => subst h; rfl
  case bl => subst h; rfl
  case int => subst h; rfl
  case str => subst h; rfl
  case opq => cases ho
  case cls => subst h; rfl
  case ty => subst h; rfl
  case scr => obtain ⟨a, rfl, _⟩ := h; rfl
  case lst => obtain ⟨a, xs, rfl, _⟩ := h; rfl
  case tup => obtain ⟨a, xs, rfl, _⟩ := h; rfl
  case obj => obtain ⟨a, dx, fs, rfl, _⟩ := h; rfl
def gIsN (x y : D) : Option D := if notOpq x then isN x y else none
def gNotN (x y : D) : Option D := if notOpq x then notN x y else none
theorem opS_isN {K : PySem.W.Frag} : OpS K (fun x y H Q => y = .non ∧ Q (.bl (decide (x = .non))) H) gIsN := by
  intro x y z v u H Q h hx hy q
  unfold gIsN at h
  split at h
  · rename_i ho
    cases y with
    | non =>
      simp only [Den] at hy
      cases h
      refine ⟨hy, ?_⟩
      rw [isN_den hx ho]
      exact q _ fun O => by simp only [Den]
    | _ => cases h
  · cases h
theorem opS_notN {K : PySem.W.Frag} : OpS K (fun x y H Q => y = .non ∧ Q (.bl (!decide (x = .non))) H) gNotN := by
  intro x y z v u H Q h hx hy q
  unfold gNotN at h
  split at h
  · rename_i ho
    cases y with
    | non =>
      simp only [Den] at hy
      cases h
      refine ⟨hy, ?_⟩
      rw [isN_den hx ho]
      exact q _ fun O => by simp only [Den]
    | _ => cases h
  · cases h
theorem ve_isN (ha : VE X W a fa) (hb : VE X W b fb) : VE X W (.Compare a [.Is] [b] pos) (vOp gIsN fa fb) := ve_cmp op_isN opS_isN ha hb (nomark _)
theorem ve_notN (ha : VE X W a fa) (hb : VE X W b fb) : VE X W (.Compare a [.IsNot] [b] pos) (vOp gNotN fa fb) := ve_cmp op_notN opS_notN ha hb (nomark _)

/-! ### one value -/
def OpU (K : PySem.W.Frag) (r : V → Hp → VK → Prop) (G : D → Option D) : Prop := ∀ (x z : D) (v : V) (H : Hp) (Q : VK), G x = some z → Den K noA H x v → (∀ w, (∀ O, Den K O H z w) → Q w H) → r v H Q
def vUn (G : D → Option D) : (VEnv → RE) → VEnv → RE := v1 fun _ d1 e => match G d1 with
  | some z => .ok .sh z e
  | none => .no
theorem tV_un {K : PySem.W.Frag} {H0 : H0T} {H : Hp} {O0 : Av} {σ : L2.St} {Q : VK} {fa : VEnv → RE} {r : V → Hp → VK → Prop} {G : D → Option D} (hG : OpU K r G) (h : tV K H0 O0 W (vUn G fa) σ H Q) : tV K H0 O0 W fa σ H fun x H1 => r x H1 Q := by
  refine tV1 h fun k1 d1 e1 x H1 O1 R1 hk1 p => ?_
  cases q3 : G d1 with
  | none => simp only [q3] at p; exact p.elim
  | some z =>
    simp only [q3] at p
    exact hG d1 z x H1 Q q3 (hk1.den R1) fun w hw => Post_now p R1 (hw O1)
def gNeg : D → Option D
  | .int i => some (.int (-i))
  | _ => none
theorem ve_neg (ha : VE X W a fa) : VE X W (.UnaryOp .USub a pos) (vUn gNeg fa) := fun H0 O0 hx => PE.imp (pe_un un_neg (ha H0 O0 hx)) fun σ H Q h => tV_un (fun x z v H Q h hx q => by
  cases x with
  | int i =>
    simp only [Den] at hx
    cases h
    exact ⟨i, hx, q _ fun O => by simp only [Den]⟩
  | _ => cases h) h

/-! ### * and ** -/
theorem mulX_of {i j : Int} (h : decide (i.natAbs.log2 + j.natAbs.log2 < 100000000) = true) : CMulX i j := by
  have h' := of_decide_eq_true h
  exact mulx_ok (a := i.natAbs.log2 + 1) (b := j.natAbs.log2 + 1) Nat.lt_log2_self Nat.lt_log2_self (by omega)
def gMul : D → D → OR
  | .int i, .int j => .when (decide (i.natAbs.log2 + j.natAbs.log2 < 100000000)) (.sc (.int (i * j)))
  | .lst xs, .int k => .when (decide (-(2 ^ 63) ≤ k) && (decide (k < 2 ^ 63) && decide (xs.length * k.toNat ≤ lineN))) (.fl (List.replicate k.toNat xs).flatten)
  | .tup xs, .int k => .when (decide (2 ≤ k) && (decide (k ≤ 1000) && ((!xs.isEmpty) && decide (xs.length ≤ 1000)))) (.tp (List.replicate k.toNat xs).flatten)
  | _, _ => .no
def rMulA (K : PySem.W.Frag) : R2 := fun x y H Q => rI CMulX (fun i j => .int (i * j)) x y H Q ∨ rRep x y H Q ∨ rRepT K x y H Q
theorem op_mulA : OpR X (binaryOp .Mult) (rMulA X.K) := op_mulX.or (op_rep.or op_repT)
theorem DenL.rep {K : PySem.W.Frag} {O : Av} {H : Hp} {ds : List D} {xs : List V} (h : DenL K O H ds xs) : ∀ n : Nat, DenL K O H (List.replicate n ds).flatten (List.replicate n xs).flatten
  | 0 => DenL.nil
  | n + 1 => by
    rw [List.replicate_succ, List.replicate_succ, List.flatten_cons, List.flatten_cons]
    exact h.append (DenL.rep h n)
theorem opA_mul {K : PySem.W.Frag} : OpA K (rMulA K) gMul := by
  intro H0 O0 W σ H O e Q x y v u R a b p
  cases x with
  | int i =>
    cases y with
    | int j =>
      simp only [ArgOk, isSeq, Bool.false_eq_true, if_false, Den] at a b
      obtain ⟨hl, p⟩ := Post_when p
      exact .inl ⟨i, j, a, b, mulX_of hl, Post_sc p R (by simp only [Den])⟩
    | _ => exact p.elim
  | lst xs =>
    cases y with
    | int k =>
      simp only [ArgOk, isSeq, Bool.false_eq_true, if_true, if_false, SeqOk, Den] at a b
      obtain ⟨a1, vs, rfl, h1, h2⟩ := a
      obtain ⟨hl, p⟩ := Post_when p
      simp only [Bool.and_eq_true, decide_eq_true_eq] at hl
      exact .inr (.inl ⟨a1, k, vs, rfl, b, h1, hl.1, hl.2.1, by rw [← h2.length, ← lineN_eq]; exact hl.2.2, fun q hq => Post_new_list p R hq (h2.rep _)⟩)
    | _ => exact p.elim
  | tup xs =>
    cases y with
    | int k =>
      simp only [ArgOk, isSeq, Bool.false_eq_true, if_true, if_false, SeqOk, Den] at a b
      obtain ⟨a1, vs, rfl, h1, h2⟩ := a
      obtain ⟨hl, p⟩ := Post_when p
      simp only [Bool.and_eq_true, decide_eq_true_eq] at hl
      refine .inr (.inr ⟨a1, k, vs, rfl, b, sqT_of h1, fun z => ?_, hl.1, hl.2.1, by rw [← h2.length]; exact hl.2.2.2, fun q hq => Post_new_tup p R hq (h2.rep _)⟩)
      have ez := h2.length
      rw [z] at ez
      have e0 : xs = [] := by simpa using ez
      rw [e0] at hl
      simp at hl
    | _ => exact p.elim
  | _ => exact p.elim
theorem ve_mul (ha : VE X W a fa) (hb : VE X W b fb) : VE X W (.BinOp a .Mult b pos) (vOpA gMul fa fb) := ve_opA op_mulA opA_mul ha hb
/-- **: the base below 2^64 -/
abbrev gPow := gI (fun i j => decide (0 ≤ j) && (decide (j ≤ 1000000) && decide (i.natAbs < 2 ^ 64))) fun i j => .int (i ^ j.toNat)
theorem ve_pow (ha : VE X W a fa) (hb : VE X W b fb) : VE X W (.BinOp a .Pow b pos) (vOp gPow fa fb) := ve_op op_pow (opS_I (fun i j h => by simpa [CPow] using h) fun _ _ _ _ => by simp only [Den]) ha hb

/-! ### tests -/
inductive RT where
  | ok (b : Bool) (e : VEnv)
  | ex (x : Xn) (e : VEnv)
  | no
def PostT (K : PySem.W.Frag) (H0 : H0T) (O0 : Av) (W : WX) (σ : L2.St) (H : Hp) (O : Av) (Q : Bool → Hp → Prop) : RT → Prop
  | .ok b e => ∀ (H' : Hp) (O' : Av), Rel K H0 O0 e σ H' O' → StepE O H O' H' → Q b H'
  | .ex x e => ∀ (H' : Hp) (O' : Av) (c : Value) (dd : Option Addr), Rel K H0 O0 e σ H' O' → StepE O H O' H' → XOk K O' H' x c dd → W c dd σ H'
  | .no => False
def tVT (K : PySem.W.Frag) (H0 : H0T) (O0 : Av) (W : WX) (f : VEnv → RT) : TT := fun σ H Q => ∃ env O, Rel K H0 O0 env σ H O ∧ PostT K H0 O0 W σ H O Q (f env)
def VT (X : Cx) (W : WX) (e : Expr) (f : VEnv → RT) : Prop := ∀ (H0 : H0T) (O0 : Av), HX X H0 → PT X e (tVT X.K H0 O0 W f)
theorem PT.imp {e : Expr} {t t' : TT} (h : PT X e t) (i : ∀ σ H Q, t' σ H Q → t σ H Q) : PT X e t' := ⟨fun pins s σ H Q I q => h.run pins s σ H Q I (i σ H Q q)⟩
def RT.bind (r : RT) (g : Bool → VEnv → RT) : RT := match r with
  | .ok b e => g b e
  | .ex x e => .ex x e
  | .no => .no
theorem PostT.from {K : PySem.W.Frag} {H0 : H0T} {H H1 : Hp} {O0 O O1 : Av} {σ : L2.St} {Q : Bool → Hp → Prop} (st : StepE O H O1 H1) {r : RT} (h : PostT K H0 O0 W σ H O Q r) : PostT K H0 O0 W σ H1 O1 Q r := by
  cases r with
  | ok b e => exact fun H' O' R s => h H' O' R (st.trans s)
  | ex x e => exact fun H' O' c dd R s => h H' O' c dd R (st.trans s)
  | no => exact h
theorem tVT_bind {K : PySem.W.Frag} {H0 : H0T} {H : Hp} {O0 : Av} {σ : L2.St} {Q : Bool → Hp → Prop} {f : VEnv → RT} {g : Bool → VEnv → RT} {R : Bool → Hp → Prop} (h : tVT K H0 O0 W (fun env => (f env).bind g) σ H Q)
    (hr : ∀ b e H1 O1, Rel K H0 O0 e σ H1 O1 → PostT K H0 O0 W σ H1 O1 Q (g b e) → R b H1) : tVT K H0 O0 W f σ H R := by
  obtain ⟨env, O, Rl, post⟩ := h
  refine ⟨env, O, Rl, ?_⟩
  have post' : PostT K H0 O0 W σ H O Q ((f env).bind g) := post
  cases e : f env with
  | ok b e1 =>
    rw [e] at post'
    exact fun H' O' R' s => hr b e1 H' O' R' (PostT.from s post')
  | ex x e1 =>
    rw [e] at post'
    exact post'
  | no =>
    rw [e] at post'
    exact post'
/-- a value's truth -/
def truth : D → Option Bool
  | .non => some false
  | .bl b => some b
  | .int i => some (i != 0)
  | .str s => if s.length ≤ lineN then some ((s.length : Int) != 0) else none
  | .lst ds => some (!ds.isEmpty)
  | .tup ds => some (!ds.isEmpty)
  | .scr ns => some (!ns.isEmpty)
  | _ => none
theorem isEmpty_len {α β : Type} {a : List α} {b : List β} (h : a.length = b.length) : a.isEmpty = b.isEmpty := by
  cases a <;> cases b <;> simp_all
theorem truth_ok {K : PySem.W.Frag} {O : Av} {H : Hp} {d : D} {v : V} {b : Bool} (h : Den K O H d v) (t : truth d = some b) : TruV K v H b := by
  cases d with
  | non => simp only [Den] at h; subst h; cases t; rfl
  | bl c => simp only [Den] at h; subst h; cases t; rfl
  | int i => simp only [Den] at h; subst h; cases t; rfl
  | str s =>
    simp only [Den] at h
    subst h
    unfold truth at t
    simp only at t
    split at t
    · rename_i hl
      cases t
      exact ⟨by rw [← lineN_eq]; exact hl, rfl⟩
    · cases t
  | lst ds =>
    simp only [Den] at h
    obtain ⟨a, xs, rfl, _, h1, h2⟩ := h
    cases t
    exact .inl ⟨xs, SqL.of h1, by rw [isEmpty_len h2.length]⟩
  | tup ds =>
    simp only [Den] at h
    obtain ⟨a, xs, rfl, h1, h2⟩ := h
    cases t
    exact .inr (.inl ⟨xs, sqT_of (seq_tup h1), by rw [isEmpty_len h2.length]⟩)
  | scr ns =>
    simp only [Den] at h
    obtain ⟨a, rfl, h1⟩ := h
    cases t
    exact .inl ⟨_, seq_scr h1, by rw [isEmpty_len (a := ns) (b := ns.map V.int) (by simp)]⟩
  | _ => cases t
def vTru (fa : VEnv → RE) : VEnv → RT := fun env => match (fa env).rel with
  | .ok _ d e => (match truth d with
    | some b => .ok b e
    | none => .no)
  | .ex x e => .ex x e
  | .no => .no
theorem tV_tru {K : PySem.W.Frag} {H0 : H0T} {H : Hp} {O0 : Av} {σ : L2.St} {Q : Bool → Hp → Prop} {fa : VEnv → RE} (h : tVT K H0 O0 W (vTru fa) σ H Q) : tV K H0 O0 W fa σ H fun x H' => ∃ k, TruV K x H' k ∧ Q k H' := by
  obtain ⟨env, O, Rl, post⟩ := h
  refine tV_rel ⟨env, O, Rl, ?_⟩
  unfold vTru at post
  show PostE K H0 O0 W σ H O _ (fa env).rel
  cases e : (fa env).rel with
  | ok k d e1 =>
    rw [e] at post
    dsimp only at post
    cases q2 : truth d with
    | none => rw [q2] at post; exact post.elim
    | some b =>
      rw [q2] at post
      exact fun v H' O' R s hk => ⟨b, truth_ok ((Held.of R hk (nofr_rel e)).den R) q2, post H' O' R s⟩
  | ex x e1 => rw [e] at post; exact post
  | no => rw [e] at post; exact post
/-- an expression as a test, by its value's truth (not for and, or, not, if-else, comparisons) -/
theorem vt_tru (ha : VE X W a fa) (he : ∀ whole, isTrue a X.env whole = (do let v ← whole; standAt a.pos; holding [v] (truthy v)) := by intro _; rfl) : VT X W a (vTru fa) :=
  fun H0 O0 hx => PT.imp (pt_truth (ha H0 O0 hx) he) fun σ H Q h => tV_tru h
def Bly (f : VEnv → RE) : Prop := ∀ env k d e, f env = .ok k d e → ∃ b, d = .bl b
theorem rel_data {r : RE} {k : Kd} {d : D} {e : VEnv} (h : r.rel = .ok k d e) : ∃ k', r = .ok k' d e := by
  cases r with
  | ok k' d' e' => cases k' <;> (simp only [RE.rel] at h; cases h; exact ⟨_, rfl⟩)
  | ex x e' => cases h
  | no => cases h
theorem tV_truB {K : PySem.W.Frag} {H0 : H0T} {H : Hp} {O0 : Av} {σ : L2.St} {Q : Bool → Hp → Prop} {fa : VEnv → RE} (hB : Bly fa) (h : tVT K H0 O0 W (vTru fa) σ H Q) : tV K H0 O0 W fa σ H fun x H' => ∃ k, x = .bl k ∧ Q k H' := by
  obtain ⟨env, O, Rl, post⟩ := h
  refine tV_rel ⟨env, O, Rl, ?_⟩
  unfold vTru at post
  show PostE K H0 O0 W σ H O _ (fa env).rel
  cases e : (fa env).rel with
  | ok k d e1 =>
    rw [e] at post
    dsimp only at post
    obtain ⟨k', hf⟩ := rel_data e
    obtain ⟨c, rfl⟩ := hB env k' d e1 hf
    refine fun v H' O' R s hk => ⟨c, ?_, post H' O' R s⟩
    have hd := (Held.of R hk (nofr_rel e)).den R
    simpa only [Den] using hd
  | ex x e1 => rw [e] at post; exact post
  | no => rw [e] at post; exact post
theorem bly_op {G : D → D → Option D} (hB : ∀ x y z, G x y = some z → ∃ b, z = .bl b) : Bly (vOp G fa fb) := by
  intro env k d e h
  unfold vOp v2 RE.bind at h
  dsimp only at h
  split at h
  · try dsimp only at h
    split at h
    · try dsimp only at h
      split at h
      · rename_i z hz
        cases h
        exact hB _ _ _ hz
      · cases h
    · cases h
    · cases h
  · cases h
  · cases h
/-- a comparison as a test: its value is True or False -/
theorem vt_cmp {op : CmpOp} {r : R2} {G : D → D → Option D} (ho : OpR X (compareOp op) r) (hG : OpS X.K r G) (hB : ∀ x y z, G x y = some z → ∃ b, z = .bl b) (ha : VE X W a fa) (hb : VE X W b fb) (hm : behindInMarks op b = false) : VT X W (.Compare a [op] [b] pos) (vTru (vOp G fa fb)) :=
  fun H0 O0 hx => PT.imp (pt_cmpR ho (ha H0 O0 hx) (hb H0 O0 hx) hm) fun σ H Q h => tV_op hG (tV_truB (bly_op hB) h)
theorem gI0_bl {g : Int → Int → Bool} : ∀ x y z, gI0 (fun i j => .bl (g i j)) x y = some z → ∃ b, z = .bl b := by
  intro x y z h
  cases x with
  | int i =>
    cases y with
    | int j => cases h; exact ⟨_, rfl⟩
    | _ => cases h
  | _ => cases h
theorem vt_lt (ha : VE X W a fa) (hb : VE X W b fb) : VT X W (.Compare a [.Lt] [b] pos) (vTru (vOp gLt fa fb)) := vt_cmp op_lt (opS_I0 fun _ _ _ _ => by simp only [Den]) gI0_bl ha hb (nomark _)
theorem vt_le (ha : VE X W a fa) (hb : VE X W b fb) : VT X W (.Compare a [.LtE] [b] pos) (vTru (vOp gLe fa fb)) := vt_cmp op_le (opS_I0 fun _ _ _ _ => by simp only [Den]) gI0_bl ha hb (nomark _)
theorem vt_gt (ha : VE X W a fa) (hb : VE X W b fb) : VT X W (.Compare a [.Gt] [b] pos) (vTru (vOp gGt fa fb)) := vt_cmp op_gt (opS_I0 fun _ _ _ _ => by simp only [Den]) gI0_bl ha hb (nomark _)
theorem vt_ge (ha : VE X W a fa) (hb : VE X W b fb) : VT X W (.Compare a [.GtE] [b] pos) (vTru (vOp gGe fa fb)) := vt_cmp op_ge (opS_I0 fun _ _ _ _ => by simp only [Den]) gI0_bl ha hb (nomark _)
theorem eqD_bl : ∀ x y z, eqD x y = some z → ∃ b, z = .bl b := fun x y z h => by
  unfold eqD at h
  split at h
  · cases h; exact ⟨_, rfl⟩
  · cases h
theorem neD_bl : ∀ x y z, neD x y = some z → ∃ b, z = .bl b := fun x y z h => by
  unfold neD at h
  split at h
  · cases h; exact ⟨_, rfl⟩
  · cases h
theorem vt_eq (hu : X.A.units + 64 < cLine) (ha : VE X W a fa) (hb : VE X W b fb) : VT X W (.Compare a [.Eq] [b] pos) (vTru (vOp eqD fa fb)) := vt_cmp (op_eqD hu) opS_eq eqD_bl ha hb (nomark _)
theorem vt_ne (hu : X.A.units + 64 < cLine) (ha : VE X W a fa) (hb : VE X W b fb) : VT X W (.Compare a [.NotEq] [b] pos) (vTru (vOp neD fa fb)) := vt_cmp (op_neD hu) opS_ne neD_bl ha hb (nomark _)
theorem isN_bl : ∀ x y z, gIsN x y = some z → ∃ b, z = .bl b := fun x y z h => by
  unfold gIsN at h
  split at h
  · cases y with
    | non => cases h; exact ⟨_, rfl⟩
    | _ => cases h
  · cases h
theorem notN_bl : ∀ x y z, gNotN x y = some z → ∃ b, z = .bl b := fun x y z h => by
  unfold gNotN at h
  split at h
  · cases y with
    | non => cases h; exact ⟨_, rfl⟩
    | _ => cases h
  · cases h
theorem vt_isN (ha : VE X W a fa) (hb : VE X W b fb) : VT X W (.Compare a [.Is] [b] pos) (vTru (vOp gIsN fa fb)) := vt_cmp op_isN opS_isN isN_bl ha hb (nomark _)
theorem vt_notN (ha : VE X W a fa) (hb : VE X W b fb) : VT X W (.Compare a [.IsNot] [b] pos) (vTru (vOp gNotN fa fb)) := vt_cmp op_notN opS_notN notN_bl ha hb (nomark _)

/-! ### and, or, not -/
variable {ta tb tc : VEnv → RT} {rest : List Expr}
def tAndT (f g : VEnv → RT) : VEnv → RT := fun env => (f env).bind fun b e => match b with
  | true => g e
  | false => .ok false e
def tOrT (f g : VEnv → RT) : VEnv → RT := fun env => (f env).bind fun b e => match b with
  | true => .ok true e
  | false => g e
def tNotT (f : VEnv → RT) : VEnv → RT := fun env => (f env).bind fun b e => .ok (!b) e
/-- a chain of and, or -/
def VW (X : Cx) (W : WX) (e : Expr) (f : VEnv → RT) : Prop := ∀ (H0 : H0T) (O0 : Av), HX X H0 → PW X e (tVT X.K H0 O0 W f)
theorem PW.imp {e : Expr} {t t' : TT} (h : PW X e t) (i : ∀ σ H Q, t' σ H Q → t σ H Q) : PW X e t' := ⟨fun wh pins s σ H Q I q => h.run wh pins s σ H Q I (i σ H Q q)⟩
theorem PostT_now {K : PySem.W.Frag} {H0 : H0T} {H : Hp} {O0 O : Av} {σ : L2.St} {Q : Bool → Hp → Prop} {b : Bool} {e : VEnv} (h : PostT K H0 O0 W σ H O Q (.ok b e)) (R : Rel K H0 O0 e σ H O) : Q b H := h H O R (StepE.refl _ _)
theorem vw_and1 (ha : VT X W a ta) : VW X W (.BoolOp .And [a] pos) ta := fun H0 O0 hx => pw_and1 (ha H0 O0 hx)
theorem vw_or1 (ha : VT X W a ta) : VW X W (.BoolOp .Or [a] pos) ta := fun H0 O0 hx => pw_or1 (ha H0 O0 hx)
theorem vw_and (ha : VT X W a ta) (hb : VW X W (.BoolOp .And (b :: rest) pos) tb) : VW X W (.BoolOp .And (a :: b :: rest) pos) (tAndT ta tb) := fun H0 O0 hx => PW.imp (pw_and (ha H0 O0 hx) (hb H0 O0 hx)) fun σ H Q h => tVT_bind h fun c e H1 O1 R p => by
  cases c with
  | true => exact ⟨e, O1, R, p⟩
  | false => exact PostT_now p R
theorem vw_or (ha : VT X W a ta) (hb : VW X W (.BoolOp .Or (b :: rest) pos) tb) : VW X W (.BoolOp .Or (a :: b :: rest) pos) (tOrT ta tb) := fun H0 O0 hx => PW.imp (pw_or (ha H0 O0 hx) (hb H0 O0 hx)) fun σ H Q h => tVT_bind h fun c e H1 O1 R p => by
  cases c with
  | false => exact ⟨e, O1, R, p⟩
  | true => exact PostT_now p R
theorem VW.pt (h : VW X W a ta) : VT X W a ta := fun H0 O0 hx => (h H0 O0 hx).pt
theorem vt_not (ha : VT X W a ta) : VT X W (.UnaryOp .Not a pos) (tNotT ta) := fun H0 O0 hx => PT.imp (pt_not (ha H0 O0 hx)) fun σ H Q h => tVT_bind h fun c e H1 O1 R p => PostT_now p R
/-- .. as values: all but the last True or False -/
def vAndV (f g : VEnv → RE) : VEnv → RE := fun env => (f env).bind fun _ d e => match d with
  | .bl true => g e
  | .bl false => .ok .sh (.bl false) e
  | _ => .no
def vOrV (f g : VEnv → RE) : VEnv → RE := fun env => (f env).bind fun _ d e => match d with
  | .bl true => .ok .sh (.bl true) e
  | .bl false => g e
  | _ => .no
def vNotV (f : VEnv → RE) : VEnv → RE := fun env => (f env).bind fun _ d e => match d with
  | .bl b => .ok .sh (.bl (!b)) e
  | _ => .no
theorem bl_of {K : PySem.W.Frag} {H0 : H0T} {H : Hp} {O0 O : Av} {σ : L2.St} {e : VEnv} {k : Kd} {b : Bool} {v : V} (R : Rel K H0 O0 e σ H O) (h : KOk K H0 O H σ e k (.bl b) v) : v = .bl b := by
  cases k with
  | sh => have h' : Den K O H (.bl b) v := h; simpa only [Den] using h'
  | tnt => have h' : Den K noA H0 (.bl b) v := h; simpa only [Den] using h'
  | fr => obtain ⟨_, _, _, _, z, _⟩ := h; exact z.elim
  | own i =>
    obtain ⟨_, z⟩ := h
    obtain ⟨_, _, _, _, _, _, hc⟩ := R.slot _ _ z
    exact hc.elim
theorem ve_one {op} (ha : VE X W a fa) : VE X W (.BoolOp op [a] pos) fa := fun H0 O0 hx => pe_one (ha H0 O0 hx)
theorem ve_and (ha : VE X W a fa) (hb : VE X W (.BoolOp .And (b :: rest) pos) fb) : VE X W (.BoolOp .And (a :: b :: rest) pos) (vAndV fa fb) := fun H0 O0 hx => PE.imp (pe_and (ha H0 O0 hx) (hb H0 O0 hx)) fun σ H Q h => tV_bind h fun k d e v H1 O1 R hk p => by
  cases d with
  | bl c =>
    refine ⟨c, bl_of R hk, ?_⟩
    cases c with
    | true => exact ⟨e, O1, R, p⟩
    | false => exact Post_now p R (by show Den _ _ _ _ _; simp only [Den])
  | _ => exact p.elim
theorem ve_or (ha : VE X W a fa) (hb : VE X W (.BoolOp .Or (b :: rest) pos) fb) : VE X W (.BoolOp .Or (a :: b :: rest) pos) (vOrV fa fb) := fun H0 O0 hx => PE.imp (pe_or (ha H0 O0 hx) (hb H0 O0 hx)) fun σ H Q h => tV_bind h fun k d e v H1 O1 R hk p => by
  cases d with
  | bl c =>
    refine ⟨c, bl_of R hk, ?_⟩
    cases c with
    | false => exact ⟨e, O1, R, p⟩
    | true => exact Post_now p R (by show Den _ _ _ _ _; simp only [Den])
  | _ => exact p.elim
theorem ve_not (ha : VE X W a fa) : VE X W (.UnaryOp .Not a pos) (vNotV fa) := fun H0 O0 hx => PE.imp (pe_not (ha H0 O0 hx)) fun σ H Q h => tV_bind h fun k d e v H1 O1 R hk p => by
  cases d with
  | bl c => exact ⟨c, bl_of R hk, Post_now p R (by show Den _ _ _ _ _; simp only [Den])⟩
  | _ => exact p.elim
/-- a if t else b -/
def vIf (t : VEnv → RT) (f g : VEnv → RE) : VEnv → RE := fun env => match t env with
  | .ok true e => f e
  | .ok false e => g e
  | .ex x e => .ex x e
  | .no => .no
theorem ve_if (hc : VT X W c tc) (ha : VE X W a fa) (hb : VE X W b fb) : VE X W (.IfExp c a b pos) (vIf tc fa fb) := fun H0 O0 hx => PE.imp (pe_ifExp (hc H0 O0 hx) (ha H0 O0 hx) (hb H0 O0 hx)) fun σ H Q h => by
  obtain ⟨env, O, Rl, post⟩ := h
  refine ⟨env, O, Rl, ?_⟩
  unfold vIf at post
  cases e : tc env with
  | ok b e1 =>
    rw [e] at post
    intro H' O' R s
    cases b with
    | true => exact ⟨e1, O', R, PostE.from s post⟩
    | false => exact ⟨e1, O', R, PostE.from s post⟩
  | ex x e1 => rw [e] at post; exact post
  | no => rw [e] at post; exact post
end
end Vi

set_option Elab.async false
set_option linter.all false
set_option maxRecDepth 100000
namespace Vi
open PySem PySem.Spec PyProof.Rows L2

/-! ### argument lists -/
inductive RA where
  | ok (l : List (Kd × D)) (e : VEnv)
  | ex (x : Xn) (e : VEnv)
  | no
def HeldL (K : PySem.W.Frag) (H0 : H0T) (O : Av) (H : Hp) : List (Kd × D) → List V → Prop
  | [], vs => vs = []
  | (k, d) :: l, vs => ∃ v r, vs = v :: r ∧ Held K H0 O H k d v ∧ HeldL K H0 O H l r
section
variable {K : PySem.W.Frag} {H0 : H0T} {H H' H1 : Hp} {O0 O O' O1 : Av} {W : WX} {env e : VEnv} {σ : L2.St}
theorem HeldL.step (st : StepE O H O' H') : ∀ {l : List (Kd × D)} {vs : List V}, HeldL K H0 O H l vs → HeldL K H0 O' H' l vs
  | [], vs, h => h
  | (k, d) :: l, vs, h => by
    obtain ⟨v, r, e, h1, h2⟩ := h
    exact ⟨v, r, e, Held.step st h1, HeldL.step st h2⟩
def PostA (K : PySem.W.Frag) (H0 : H0T) (O0 : Av) (W : WX) (σ : L2.St) (H : Hp) (O : Av) (Q : List V → Hp → Prop) : RA → Prop
  | .ok l e => ∀ (vs : List V) (H' : Hp) (O' : Av), Rel K H0 O0 e σ H' O' → StepE O H O' H' → HeldL K H0 O' H' l vs → Q vs H'
  | .ex x e => ∀ (H' : Hp) (O' : Av) (c : Value) (dd : Option Addr), Rel K H0 O0 e σ H' O' → StepE O H O' H' → XOk K O' H' x c dd → W c dd σ H'
  | .no => False
def tVA (K : PySem.W.Frag) (H0 : H0T) (O0 : Av) (W : WX) (f : VEnv → RA) : TA := fun σ H Q => ∃ env O, Rel K H0 O0 env σ H O ∧ PostA K H0 O0 W σ H O Q (f env)
theorem PostA.from {Q : List V → Hp → Prop} (st : StepE O H O1 H1) {r : RA} (h : PostA K H0 O0 W σ H O Q r) : PostA K H0 O0 W σ H1 O1 Q r := by
  cases r with
  | ok l e => exact fun vs H' O' R s k => h vs H' O' R (st.trans s) k
  | ex x e => exact fun H' O' c dd R s => h H' O' c dd R (st.trans s)
  | no => exact h
def vaNil : VEnv → RA := fun env => .ok [] env
/-- b: the value may be one that is read only -/
def vaCons (b : Bool) (f : VEnv → RE) (g : VEnv → RA) : VEnv → RA := fun env => match (match b with | true => (f env).rel | false => (f env).shr) with
  | .ok k d e => (match g e with
    | .ok l e' => .ok ((k, d) :: l) e'
    | .ex x e' => .ex x e'
    | .no => .no)
  | .ex x e => .ex x e
  | .no => .no
theorem tVA_cons {b : Bool} {f : VEnv → RE} {g : VEnv → RA} {Q : List V → Hp → Prop} (h : tVA K H0 O0 W (vaCons b f g) σ H Q) : tCons (tV K H0 O0 W f) (tVA K H0 O0 W g) σ H Q := by
  obtain ⟨env, O, R, post⟩ := h
  have key : ∀ r : RE, (∀ k d e, r = .ok k d e → k ≠ .fr) → PostA K H0 O0 W σ H O Q (match r with
      | .ok k d e => (match g e with
        | .ok l e' => .ok ((k, d) :: l) e'
        | .ex x e' => .ex x e'
        | .no => .no)
      | .ex x e => .ex x e
      | .no => .no) → PostE K H0 O0 W σ H O (fun x H1 => tVA K H0 O0 W g σ H1 fun xs H2 => Q (x :: xs) H2) r := by
    intro r nf p
    cases r with
    | ok k d e =>
      intro v H1 O1 R1 s1 hk
      refine ⟨e, O1, R1, ?_⟩
      have p1 := PostA.from (O1 := O1) (H1 := H1) s1 p
      dsimp only at p1
      cases e2 : g e with
      | ok l e' =>
        rw [e2] at p1
        exact fun vs H' O' R' s' hl => p1 (v :: vs) H' O' R' s' ⟨v, vs, rfl, Held.step s' (Held.of R1 hk (nf _ _ _ rfl)), hl⟩
      | ex x e' => rw [e2] at p1; exact p1
      | no => rw [e2] at p1; exact p1
    | ex x e => exact p
    | no => exact p
  refine ⟨env, O, R, ?_⟩
  cases b with
  | true => exact Post_rel (key _ (fun k d e z => nofr_rel z) post)
  | false => exact Post_shr (key _ (fun k d e z z' => by rw [nofr_shr z] at z'; cases z') post)
/-- all of them to be kept -/
def shs : List (Kd × D) → Option (List D)
  | [] => some []
  | (.sh, d) :: l => (shs l).map (d :: ·)
  | _ => none
theorem shs_ok : ∀ {l : List (Kd × D)} {vs : List V} {ds : List D}, HeldL K H0 O H l vs → shs l = some ds → DenL K O H ds vs
  | [], vs, ds, h, e => by
    cases e
    have h' : vs = [] := h
    subst h'
    exact DenL.nil
  | (.sh, d) :: l, vs, ds, h, e => by
    obtain ⟨v, r, rfl, h1, h2⟩ := h
    simp only [shs, Option.map_eq_some_iff] at e
    obtain ⟨ds', e1, rfl⟩ := e
    exact DenL.cons h1 (shs_ok h2 e1)
  | (.tnt, d) :: l, vs, ds, h, e => by simp [shs] at e
  | (.fr, d) :: l, vs, ds, h, e => by simp [shs] at e
  | (.own i, d) :: l, vs, ds, h, e => by simp [shs] at e
end

section
variable {X : Cx} {W : WX} {pos p : Pos} {a b c : Expr} {es : List Expr} {fa fb fc : VEnv → RE} {g : VEnv → RA}
def VA (X : Cx) (W : WX) (es : List Expr) (f : VEnv → RA) : Prop := ∀ (H0 : H0T) (O0 : Av), HX X H0 → PA X es (tVA X.K H0 O0 W f)
theorem PA.imp {es : List Expr} {t t' : TA} (h : PA X es t) (i : ∀ σ H Q, t' σ H Q → t σ H Q) : PA X es t' := ⟨fun pos pins s σ H Q I q => h.run pos pins s σ H Q I (i σ H Q q)⟩
theorem va_nil : VA X W [] vaNil := fun H0 O0 hx => PA.imp pa_nil fun σ H Q ⟨env, O, R, post⟩ => post [] H O R (StepE.refl _ _) rfl
theorem va_cons (b : Bool) (ha : VE X W a fa) (hg : VA X W es g) (hs : starEach (a :: es) X.env = (false, eval a X.env) :: starEach es X.env := by rfl) : VA X W (a :: es) (vaCons b fa g) :=
  fun H0 O0 hx => PA.imp (pa_cons (ha H0 O0 hx) (hg H0 O0 hx) hs) fun σ H Q h => tVA_cons h
/-! ### displays -/
def vTup (g : VEnv → RA) : VEnv → RE := fun env => match g env with
  | .ok l e => (match shs l with
    | some ds => if ds.length ≤ lineN then .ok .sh (.tup ds) e else .no
    | none => .no)
  | .ex x e => .ex x e
  | .no => .no
def vLst (g : VEnv → RA) : VEnv → RE := fun env => match g env with
  | .ok l e => (match shs l with
    | some ds => if ds.length ≤ lineN then .ok .fr (.lst ds) e else .no
    | none => .no)
  | .ex x e => .ex x e
  | .no => .no
theorem ve_tup {k} (h : VA X W es g) : VE X W (.Tuple es k pos) (vTup g) := fun H0 O0 hx => PE.imp (pe_tup (h H0 O0 hx)) fun σ H Q q => by
  obtain ⟨env, O, R, post⟩ := q
  refine ⟨env, O, R, ?_⟩
  unfold vTup at post
  cases e : g env with
  | ok l e1 =>
    rw [e] at post
    dsimp only at post
    intro vs H' O' R' s' hl
    cases e2 : shs l with
    | none => rw [e2] at post; exact post.elim
    | some ds =>
      rw [e2] at post
      dsimp only at post
      have hd := shs_ok hl e2
      split at post
      · rename_i hn
        exact ⟨by rw [← hd.length, ← lineN_eq]; exact hn, fun q hq => Post_new_tup (PostE.from s' post) R' hq hd⟩
      · exact post.elim
  | ex x e1 => rw [e] at post; exact post
  | no => rw [e] at post; exact post
theorem ve_lst (h : VA X W es g) : VE X W (.List es pos) (vLst g) := fun H0 O0 hx => PE.imp (pe_lst (h H0 O0 hx)) fun σ H Q q => by
  obtain ⟨env, O, R, post⟩ := q
  refine ⟨env, O, R, ?_⟩
  unfold vLst at post
  cases e : g env with
  | ok l e1 =>
    rw [e] at post
    dsimp only at post
    intro vs H' O' R' s' hl
    cases e2 : shs l with
    | none => rw [e2] at post; exact post.elim
    | some ds =>
      rw [e2] at post
      dsimp only at post
      have hd := shs_ok hl e2
      split at post
      · rename_i hn
        exact ⟨by rw [← hd.length, ← lineN_eq]; exact hn, fun q hq => Post_new_list (PostE.from s' post) R' hq hd⟩
      · exact post.elim
  | ex x e1 => rw [e] at post; exact post
  | no => rw [e] at post; exact post

/-! ### subscripts -/
/-- the item's kind by the holder's -/
def itemRE (k : Kd) (d : D) (e : VEnv) : RE := match k with
  | .tnt => if flat d then .ok .sh d e else .ok .tnt d e
  | _ => .ok .sh d e
def itemsOf : D → Option (List D)
  | .lst ds => some ds
  | .tup ds => some ds
  | .scr ns => some (ns.map D.int)
  | _ => none
def atD (d : D) (i : Int) : Option D := match d with
  | .str s => if s.length ≤ lineN then (atI s.cps.toList i).map fun c => .str ⟨#[c]⟩ else none
  | d => (itemsOf d).bind fun ds => atI ds i
def vIx : (VEnv → RE) → (VEnv → RE) → VEnv → RE := v2 fun k1 d1 _ d2 e => match d2 with
  | .int i => (match atD d1 i with
    | some z => itemRE k1 z e
    | none => .no)
  | _ => .no
theorem atI_map {α β : Type} (f : α → β) (xs : List α) (i : Int) : atI (xs.map f) i = (atI xs i).map f := by
  unfold atI
  rw [List.length_map]
  cases ixN xs.length i with
  | none => rfl
  | some j => simp
theorem DenL.atI {K : PySem.W.Frag} {O : Av} {H : Hp} {ds : List D} {xs : List V} {i : Int} {d : D} (h : DenL K O H ds xs) (e : atI ds i = some d) : ∃ x, L2.atI xs i = some x ∧ Den K O H d x := by
  unfold L2.atI at e ⊢
  rw [← h.length]
  cases q : ixN ds.length i with
  | none => rw [q] at e; cases e
  | some j =>
    rw [q] at e
    exact h.get' (i := j) e
theorem denL_ints {K : PySem.W.Frag} {O : Av} {H : Hp} : ∀ ns : List Int, DenL K O H (ns.map D.int) (ns.map V.int)
  | [] => DenL.nil
  | n :: ns => DenL.cons (by simp only [Den]) (denL_ints ns)
def ItemsOk (K : PySem.W.Frag) (H0 : H0T) (O : Av) (H : Hp) (k : Kd) (ds : List D) (xs : List V) : Prop := match k with
  | .tnt => DenL K noA H0 ds xs
  | _ => DenL K O H ds xs
def ItemOk (K : PySem.W.Frag) (H0 : H0T) (O : Av) (H : Hp) (k : Kd) (d : D) (v : V) : Prop := match k with
  | .tnt => Den K noA H0 d v
  | _ => Den K O H d v
/-- items of a held sequence, with what is known of them -/
theorem held_items {K : PySem.W.Frag} {H0 : H0T} {H : Hp} {O0 O : Av} {σ : L2.St} {e : VEnv} {k : Kd} {x : D} {v : V} {ds : List D} (R : Rel K H0 O0 e σ H O) (h : Held K H0 O H k x v) (hi : itemsOf x = some ds) :
    ∃ a xs, v = .ref a ∧ (SqL K H a xs ∨ SqT K H a xs) ∧ ItemsOk K H0 O H k ds xs := by
  have of_den : ∀ {O' : Av} {H' : Hp}, (∀ a o, H' a = some o → H a = some o) → Den K O' H' x v → ∃ a xs, v = .ref a ∧ (SqL K H a xs ∨ SqT K H a xs) ∧ DenL K O' H' ds xs := by
    intro O' H' k hd
    cases x with
    | lst ds' =>
      cases hi
      simp only [Den] at hd
      obtain ⟨a, xs, e1, _, h1, h2⟩ := hd
      exact ⟨a, xs, e1, .inl (SqL.of (k _ _ h1)), h2⟩
    | tup ds' =>
      cases hi
      simp only [Den] at hd
      obtain ⟨a, xs, e1, h1, h2⟩ := hd
      refine ⟨a, xs, e1, .inr (sqT_of ?_), h2⟩
      exact (seq_tup h1).elim (fun z => .inl (k _ _ z)) .inr
    | scr ns =>
      cases hi
      simp only [Den] at hd
      obtain ⟨a, e1, h1⟩ := hd
      refine ⟨a, _, e1, .inl ?_, denL_ints ns⟩
      rcases h1 with ⟨_, o, z⟩ | z
      · exact .inl (.inr ⟨o, k _ _ z⟩)
      · exact .inr z
    | _ => cases hi
  cases k with
  | sh => exact of_den (fun _ _ z => z) h
  | tnt => exact of_den R.ext h
  | fr => exact h.elim
  | own i =>
    obtain ⟨a, ev, hc⟩ := h
    cases x with
    | lst ds' =>
      cases hi
      obtain ⟨xs, h1, h2⟩ := hc
      exact ⟨a, xs, ev, .inl (SqL.of h1), h2⟩
    | _ => exact hc.elim
theorem Post_item {K : PySem.W.Frag} {H0 : H0T} {H : Hp} {O0 O : Av} {σ : L2.St} {Q : VK} {e : VEnv} {k : Kd} {d : D} {v : V} (p : PostE K H0 O0 W σ H O Q (itemRE k d e)) (R : Rel K H0 O0 e σ H O)
    (h : ItemOk K H0 O H k d v) : Q v H := by
  cases k with
  | tnt =>
    unfold itemRE at p
    dsimp only at p
    split at p
    · rename_i hf
      exact Post_now p R (Den.flat R.mt d v hf (R.tnt h))
    · exact Post_now p R h
  | sh => exact Post_now p R h
  | fr => exact Post_now p R h
  | own i => exact Post_now p R h
theorem ve_ix (ha : VE X W a fa) (hb : VE X W b fb) (hs : PlainIx b := by exact fun _ _ => rfl) : VE X W (.Subscript a b pos) (vIx fa fb) := fun H0 O0 hx => PE.imp (pe_ix ix_seq (ha H0 O0 hx) (hb H0 O0 hx) hs) fun σ H Q h => by
  refine tV2 h fun k1 d1 k2 d2 e2 x y H2 O2 R2 h1 h2 p => ?_
  have hw := h2.den R2
  cases d2 with
  | int i =>
    dsimp only at p
    simp only [Den] at hw
    subst hw
    cases q3 : atD d1 i with
    | none => simp only [q3] at p; exact p.elim
    | some t =>
      simp only [q3] at p
      by_cases hz : ∃ s, d1 = .str s
      · obtain ⟨s, rfl⟩ := hz
        have hs' := h1.den R2
        simp only [Den] at hs'
        subst hs'
        unfold atD at q3
        dsimp only at q3
        split at q3
        · rename_i hl
          simp only [Option.map_eq_some_iff] at q3
          obtain ⟨c, hc, rfl⟩ := q3
          refine .inr (.inr ⟨s, i, c, rfl, rfl, by rw [← lineN_eq]; exact hl, hc, ?_⟩)
          refine Post_item p R2 ?_
          cases k1 <;> simp only [ItemOk, Den]
        · cases q3
      · have q4 : ∃ ds, itemsOf d1 = some ds ∧ atI ds i = some t := by
          unfold atD at q3
          split at q3
          · exact absurd ⟨_, rfl⟩ hz
          · simpa [Option.bind_eq_some_iff] using q3
        obtain ⟨ds, hi, ht⟩ := q4
        obtain ⟨a, xs, rfl, hseq, hden⟩ := held_items R2 h1 hi
        have fin : ∃ v, atI xs i = some v ∧ ItemOk X.K H0 O2 H2 k1 t v := by
          cases k1 with
          | tnt => exact DenL.atI hden ht
          | sh => exact DenL.atI hden ht
          | fr => exact h1.elim
          | own j => exact DenL.atI hden ht
        obtain ⟨v, hv, hdv⟩ := fin
        have qv := Post_item p R2 hdv
        rcases hseq with hseq | hseq
        · exact .inl ⟨a, xs, i, v, rfl, rfl, hseq, hv, qv⟩
        · exact .inr (.inl ⟨a, xs, i, v, rfl, rfl, hseq, hv, qv⟩)
  | _ => exact p.elim
end
end Vi

set_option Elab.async false
set_option linter.all false
set_option maxRecDepth 100000
namespace Vi
open PySem PySem.Spec PyProof.Rows L2

/-! ### built-in functions -/
def ArgsOk (K : PySem.W.Frag) (O : Av) (H : Hp) : List D → List V → Prop
  | [], vs => vs = []
  | d :: ds, vs => ∃ v r, vs = v :: r ∧ ArgOk K O H d v ∧ ArgsOk K O H ds r
def argsA (l : List (Kd × D)) : Bool := l.all fun q => argA q.1 q.2
section
variable {K : PySem.W.Frag} {H0 : H0T} {H H' H1 : Hp} {O0 O O' O1 : Av} {W : WX} {env e : VEnv} {σ : L2.St} {Q : VK}
theorem argsA_ok (R : Rel K H0 O0 e σ H O) : ∀ {l : List (Kd × D)} {vs : List V}, HeldL K H0 O H l vs → argsA l = true → ArgsOk K O H (l.map Prod.snd) vs
  | [], vs, h, _ => h
  | (k, d) :: l, vs, h, a => by
    obtain ⟨v, r, e, h1, h2⟩ := h
    simp only [argsA, List.all_cons, Bool.and_eq_true] at a
    exact ⟨v, r, e, argA_ok h1 R a.1, argsA_ok R h2 a.2⟩
def OpL (K : PySem.W.Frag) (r : List V → Hp → VK → Prop) (G : List D → OR) : Prop := ∀ (H0 : H0T) (O0 : Av) (W : WX) (σ : L2.St) (H : Hp) (O : Av) (e : VEnv) (Q : VK) (ds : List D) (vs : List V),
  Rel K H0 O0 e σ H O → ArgsOk K O H ds vs → PostE K H0 O0 W σ H O Q ((G ds).fin e) → r vs H Q
def vCB (G : List D → OR) (g : VEnv → RA) : VEnv → RE := fun env => match g env with
  | .ok l e => (match argsA l with
    | true => (G (l.map Prod.snd)).fin e
    | false => .no)
  | .ex x e => .ex x e
  | .no => .no
theorem tV_cb {r : List V → Hp → VK → Prop} {G : List D → OR} {g : VEnv → RA} (hG : OpL K r G) (h : tV K H0 O0 W (vCB G g) σ H Q) : tCB r (tVA K H0 O0 W g) σ H Q := by
  obtain ⟨env, O, R, post⟩ := h
  refine ⟨env, O, R, ?_⟩
  unfold vCB at post
  cases e : g env with
  | ok l e1 =>
    rw [e] at post
    dsimp only at post
    intro vs H' O' R' s' hl
    cases q : argsA l with
    | false => rw [q] at post; exact post.elim
    | true =>
      rw [q] at post
      exact hG H0 O0 W σ H' O' e1 Q _ vs R' (argsA_ok R' hl q) (PostE.from s' post)
  | ex x e1 => rw [e] at post; exact post
  | no => rw [e] at post; exact post
theorem args1 {d : D} {vs : List V} (h : ArgsOk K O H [d] vs) : ∃ v, vs = [v] ∧ ArgOk K O H d v := by
  obtain ⟨v, r, rfl, h1, h2⟩ := h
  have e : r = [] := h2
  subst e
  exact ⟨v, rfl, h1⟩
theorem args2 {d d' : D} {vs : List V} (h : ArgsOk K O H [d, d'] vs) : ∃ v v', vs = [v, v'] ∧ ArgOk K O H d v ∧ ArgOk K O H d' v' := by
  obtain ⟨v, r, rfl, h1, h2⟩ := h
  obtain ⟨v', rfl, h3⟩ := args1 h2
  exact ⟨v, v', rfl, h1, h3⟩
theorem aInt {i : Int} {v : V} (h : ArgOk K O H (.int i) v) : v = .int i := by simpa only [ArgOk, isSeq, Bool.false_eq_true, if_false, Den] using h
theorem aBl {i : Bool} {v : V} (h : ArgOk K O H (.bl i) v) : v = .bl i := by simpa only [ArgOk, isSeq, Bool.false_eq_true, if_false, Den] using h
theorem aStr {i : Str} {v : V} (h : ArgOk K O H (.str i) v) : v = .str i := by simpa only [ArgOk, isSeq, Bool.false_eq_true, if_false, Den] using h
theorem aNon {v : V} (h : ArgOk K O H .non v) : v = .non := by simpa only [ArgOk, isSeq, Bool.false_eq_true, if_false, Den] using h
theorem aTy {t : Ty} {v : V} (h : ArgOk K O H (.ty t) v) : v = .ty t.nm := by simpa only [ArgOk, isSeq, Bool.false_eq_true, if_false, Den] using h
theorem aCls {t : Str} {v : V} (h : ArgOk K O H (.cls t) v) : v = .ref (He.ga K t) := by simpa only [ArgOk, isSeq, Bool.false_eq_true, if_false, Den] using h
theorem aLst {ds : List D} {v : V} (h : ArgOk K O H (.lst ds) v) : ∃ a xs, v = .ref a ∧ H a = some (.lst xs) ∧ DenL K O H ds xs := by simpa only [ArgOk, isSeq, if_true, SeqOk] using h
theorem aTup {ds : List D} {v : V} (h : ArgOk K O H (.tup ds) v) : ∃ a xs, v = .ref a ∧ (H a = some (.tup xs) ∨ KT K a xs) ∧ DenL K O H ds xs := by simpa only [ArgOk, isSeq, if_true, SeqOk] using h
theorem aScr {ns : List Int} {v : V} (h : ArgOk K O H (.scr ns) v) : ∃ a, v = .ref a ∧ SqL K H a (ns.map V.int) := by simpa only [ArgOk, isSeq, if_true, SeqOk] using h
end

section
variable {X : Cx} {W : WX} {pos p : Pos} {a b c : Expr} {es : List Expr} {g : VEnv → RA} {r : List V → Hp → VK → Prop} {G : List D → OR} {id T : String} {x : Str}
theorem ve_callB (hc : CallR X (.builtin id) r) (hG : OpL X.K r G) (hg : Gl X x) (hm : X.mg x = none) (hv : bootBuiltins x = some (.builtin id)) (ha : VA X W (a :: es) g) (hn : x ≠ "__name__" := by decide) (hdb : (x == ("__debug__" : Str)) = false := by decide)
    (he : starEach (a :: es) X.env = (false, eval a X.env) :: starEach es X.env := by rfl) (hpl : (backTo pos (starEach es X.env)).any (·.1) = false := by rfl) : VE X W (.Call (.Name x p) (a :: es) [] pos) (vCB G g) :=
  fun H0 O0 hx => PE.imp (pe_callB hc hg hm hv (ha H0 O0 hx) hn hdb he hpl) fun σ H Q h => tV_cb hG h
theorem ve_callTy (hc : CallR X (.type T) r) (hG : OpL X.K r G) (hg : Gl X x) (hm : X.mg x = none) (hv : bootBuiltins x = some (.type T)) (ha : VA X W (a :: es) g) (hn : x ≠ "__name__" := by decide) (hdb : (x == ("__debug__" : Str)) = false := by decide)
    (he : starEach (a :: es) X.env = (false, eval a X.env) :: starEach es X.env := by rfl) (hpl : (backTo pos (starEach es X.env)).any (·.1) = false := by rfl) : VE X W (.Call (.Name x p) (a :: es) [] pos) (vCB G g) :=
  fun H0 O0 hx => PE.imp (pe_callTy hc hg hm hv (ha H0 O0 hx) hn hdb he hpl) fun σ H Q h => tV_cb hG h
theorem ve_callBfun (hc : CallR X (.builtin id) r) (hG : OpL X.K r G) (hg : Gl X x) (hm : X.mg x = some (.builtin id)) (ha : VA X W (a :: es) g) (hdb : (x == ("__debug__" : Str)) = false := by decide)
    (he : starEach (a :: es) X.env = (false, eval a X.env) :: starEach es X.env := by rfl) (hpl : (backTo pos (starEach es X.env)).any (·.1) = false := by rfl) : VE X W (.Call (.Name x p) (a :: es) [] pos) (vCB G g) :=
  fun H0 O0 hx => PE.imp (pe_callBfun hc hg hm (ha H0 O0 hx) hdb he hpl) fun σ H Q h => tV_cb hG h
/-- a built-in type as a value -/
theorem ve_ty {t : Ty} (hg : Gl X x) (hm : X.mg x = none) (hv : bootBuiltins x = some (.type t.nm)) (hn : x ≠ "__name__" := by decide) (hd : (x == ("__debug__" : Str)) = false := by decide) : VE X W (.Name x pos) (vC (.ty t)) :=
  ve_con (pe_bltn (v := .ty t.nm) hg hm hv rfl hn hd) fun _ _ => by simp only [Den]
/-! len, int, abs -/
def gLen : List D → OR
  | [.str s] => .when (decide (s.length ≤ lineN)) (.sc (.int s.length))
  | [.lst ds] => .sc (.int ds.length)
  | [.tup ds] => .sc (.int ds.length)
  | [.scr ns] => .sc (.int ns.length)
  | _ => .no
theorem opL_len {K : PySem.W.Frag} : OpL K (fun xs H Q => ∃ x n, xs = [x] ∧ LenV K x H n ∧ Q (.int n) H) gLen := by
  intro H0 O0 W σ H O e Q ds vs R h p
  unfold gLen at p
  split at p
  · obtain ⟨v, rfl, h1⟩ := args1 h
    cases aStr h1
    obtain ⟨hl, p⟩ := Post_when p
    exact ⟨_, _, rfl, ⟨len_ok hl, rfl⟩, Post_sc p R (by simp only [Den])⟩
  · obtain ⟨v, rfl, h1⟩ := args1 h
    obtain ⟨a, xs, rfl, h2, h3⟩ := aLst h1
    refine ⟨_, _, rfl, .inl ⟨xs, SqL.of h2, rfl⟩, Post_sc p R ?_⟩
    rw [h3.length]
    simp only [Den]
  · obtain ⟨v, rfl, h1⟩ := args1 h
    obtain ⟨a, xs, rfl, h2, h3⟩ := aTup h1
    refine ⟨_, _, rfl, .inr ⟨xs, sqT_of h2, rfl⟩, Post_sc p R ?_⟩
    rw [h3.length]
    simp only [Den]
  · obtain ⟨v, rfl, h1⟩ := args1 h
    obtain ⟨a, rfl, h2⟩ := aScr h1
    refine ⟨_, _, rfl, .inl ⟨_, h2, rfl⟩, Post_sc p R ?_⟩
    simp only [Den, List.length_map]
  · exact p.elim
theorem ve_len (hg : Gl X "len") (hm : X.mg "len" = none) (ha : VA X W (a :: es) g) (he : starEach (a :: es) X.env = (false, eval a X.env) :: starEach es X.env := by rfl) (hpl : (backTo pos (starEach es X.env)).any (·.1) = false := by rfl) : VE X W (.Call (.Name "len" p) (a :: es) [] pos) (vCB gLen g) :=
  ve_callB call_len opL_len hg hm boot_len ha (by decide) (by decide) he hpl
def gInt : List D → OR
  | [.int i] => .sc (.int i)
  | [.bl b] => .sc (.int (if b then 1 else 0))
  | _ => .no
theorem opL_int {K : PySem.W.Frag} : OpL K (fun xs H Q => (∃ i, xs = [V.int i] ∧ Q (.int i) H) ∨ ∃ k, xs = [V.bl k] ∧ Q (.int (if k then 1 else 0)) H) gInt := by
  intro H0 O0 W σ H O e Q ds vs R h p
  unfold gInt at p
  split at p
  · obtain ⟨v, rfl, h1⟩ := args1 h
    cases aInt h1
    exact .inl ⟨_, rfl, Post_sc p R (by simp only [Den])⟩
  · obtain ⟨v, rfl, h1⟩ := args1 h
    cases aBl h1
    exact .inr ⟨_, rfl, Post_sc p R (by simp only [Den])⟩
  · exact p.elim
theorem ve_cint (hg : Gl X "int") (hm : X.mg "int" = none) (ha : VA X W (a :: es) g) (he : starEach (a :: es) X.env = (false, eval a X.env) :: starEach es X.env := by rfl) (hpl : (backTo pos (starEach es X.env)).any (·.1) = false := by rfl) : VE X W (.Call (.Name "int" p) (a :: es) [] pos) (vCB gInt g) :=
  ve_callTy call_int1 opL_int hg hm boot_int ha (by decide) (by decide) he hpl
def gAbs : List D → OR
  | [.int i] => .sc (.int (if i < 0 then -i else i))
  | _ => .no
theorem opL_abs {K : PySem.W.Frag} : OpL K (fun xs H Q => ∃ i, xs = [V.int i] ∧ Q (.int (if i < 0 then -i else i)) H) gAbs := by
  intro H0 O0 W σ H O e Q ds vs R h p
  unfold gAbs at p
  split at p
  · obtain ⟨v, rfl, h1⟩ := args1 h
    cases aInt h1
    exact ⟨_, rfl, Post_sc p R (by simp only [Den])⟩
  · exact p.elim
theorem ve_abs (hg : Gl X "abs") (hm : X.mg "abs" = none) (ha : VA X W (a :: es) g) (he : starEach (a :: es) X.env = (false, eval a X.env) :: starEach es X.env := by rfl) (hpl : (backTo pos (starEach es X.env)).any (·.1) = false := by rfl) : VE X W (.Call (.Name "abs" p) (a :: es) [] pos) (vCB gAbs g) :=
  ve_callB call_abs opL_abs hg hm boot_abs ha (by decide) (by decide) he hpl
/-! list, tuple -/
def gList : List D → OR
  | [.lst ds] => .fl ds
  | [.tup ds] => .fl ds
  | [.scr ns] => .fl (ns.map D.int)
  | _ => .no
theorem opL_list {K : PySem.W.Frag} : OpL K (fun xs H Q => ∃ p ys, xs = [V.ref p] ∧ (SqL K H p ys ∨ SqT K H p ys) ∧ ∀ l, H l = none → Q (.ref l) (upd H l (.lst ys))) gList := by
  intro H0 O0 W σ H O e Q ds vs R h p
  unfold gList at p
  split at p
  · obtain ⟨v, rfl, h1⟩ := args1 h
    obtain ⟨a, xs, rfl, h2, h3⟩ := aLst h1
    exact ⟨a, xs, rfl, .inl (SqL.of h2), fun l hl => Post_new_list p R hl h3⟩
  · obtain ⟨v, rfl, h1⟩ := args1 h
    obtain ⟨a, xs, rfl, h2, h3⟩ := aTup h1
    exact ⟨a, xs, rfl, .inr (sqT_of h2), fun l hl => Post_new_list p R hl h3⟩
  · obtain ⟨v, rfl, h1⟩ := args1 h
    obtain ⟨a, rfl, h2⟩ := aScr h1
    exact ⟨a, _, rfl, .inl h2, fun l hl => Post_new_list p R hl (denL_ints _)⟩
  · exact p.elim
theorem ve_list (hg : Gl X "list") (hm : X.mg "list" = none) (ha : VA X W (a :: es) g) (he : starEach (a :: es) X.env = (false, eval a X.env) :: starEach es X.env := by rfl) (hpl : (backTo pos (starEach es X.env)).any (·.1) = false := by rfl) : VE X W (.Call (.Name "list" p) (a :: es) [] pos) (vCB gList g) :=
  ve_callTy call_list_of opL_list hg hm boot_list ha (by decide) (by decide) he hpl
def gTuple : List D → OR
  | [.lst ds] => .tp ds
  | [.tup ds] => .sc (.tup ds)
  | [.scr ns] => .tp (ns.map D.int)
  | _ => .no
theorem opL_tuple {K : PySem.W.Frag} : OpL K (fun xs H Q => ∃ p ys, xs = [V.ref p] ∧ ((SqL K H p ys ∧ ∀ l, H l = none → Q (.ref l) (upd H l (.tup ys))) ∨ (SqT K H p ys ∧ Q (.ref p) H))) gTuple := by
  intro H0 O0 W σ H O e Q ds vs R h p
  unfold gTuple at p
  split at p
  · obtain ⟨v, rfl, h1⟩ := args1 h
    obtain ⟨a, xs, rfl, h2, h3⟩ := aLst h1
    exact ⟨a, xs, rfl, .inl ⟨SqL.of h2, fun l hl => Post_new_tup p R hl h3⟩⟩
  · obtain ⟨v, rfl, h1⟩ := args1 h
    obtain ⟨a, xs, rfl, h2, h3⟩ := aTup h1
    exact ⟨a, xs, rfl, .inr ⟨sqT_of h2, Post_sc p R (tup_den R h2 h3)⟩⟩
  · obtain ⟨v, rfl, h1⟩ := args1 h
    obtain ⟨a, rfl, h2⟩ := aScr h1
    exact ⟨a, _, rfl, .inl ⟨h2, fun l hl => Post_new_tup p R hl (denL_ints _)⟩⟩
  · exact p.elim
theorem ve_tuple (hg : Gl X "tuple") (hm : X.mg "tuple" = none) (ha : VA X W (a :: es) g) (he : starEach (a :: es) X.env = (false, eval a X.env) :: starEach es X.env := by rfl) (hpl : (backTo pos (starEach es X.env)).any (·.1) = false := by rfl) : VE X W (.Call (.Name "tuple" p) (a :: es) [] pos) (vCB gTuple g) :=
  ve_callTy call_tuple_of opL_tuple hg hm boot_tuple ha (by decide) (by decide) he hpl
/-! sum, gcd -/
def ints? : List D → Option (List Int)
  | [] => some []
  | .int i :: ds => (ints? ds).map (i :: ·)
  | _ => none
theorem ints?_eq : ∀ {ds : List D} {ns : List Int}, ints? ds = some ns → ds = ns.map D.int
  | [], ns, h => by cases h; rfl
  | .int i :: ds, ns, h => by
    simp only [ints?, Option.map_eq_some_iff] at h
    obtain ⟨m, h1, rfl⟩ := h
    rw [ints?_eq h1]
    rfl
  | .non :: _, _, h => by cases h
  | .bl _ :: _, _, h => by cases h
  | .str _ :: _, _, h => by cases h
  | .opq _ :: _, _, h => by cases h
  | .cls _ :: _, _, h => by cases h
  | .ty _ :: _, _, h => by cases h
  | .scr _ :: _, _, h => by cases h
  | .lst _ :: _, _, h => by cases h
  | .tup _ :: _, _, h => by cases h
  | .obj _ _ _ :: _, _, h => by cases h
theorem ints?_map (ns : List Int) : ints? (ns.map D.int) = some ns := by
  induction ns with
  | nil => rfl
  | cons n ns ih => simp [ints?, ih]
def gSum : List D → OR
  | [.lst ds] => (match ints? ds with
    | some ns => .sc (.int ns.sum)
    | none => .no)
  | _ => .no
theorem opL_sum {K : PySem.W.Frag} : OpL K (rSum K) gSum := by
  intro H0 O0 W σ H O e Q ds vs R h p
  unfold gSum at p
  split at p
  · obtain ⟨v, rfl, h1⟩ := args1 h
    obtain ⟨a, xs, rfl, h2, h3⟩ := aLst h1
    split at p
    · rename_i ns hn
      rw [ints?_eq hn] at h3
      have e := h3.ints
      subst e
      exact ⟨a, ns, rfl, SqL.of h2, Post_sc p R (by simp only [Den])⟩
    · exact p.elim
  · exact p.elim
theorem ve_sum (hc : X.calm = true) (hg : Gl X "sum") (hm : X.mg "sum" = none) (ha : VA X W (a :: es) g) (he : starEach (a :: es) X.env = (false, eval a X.env) :: starEach es X.env := by rfl) (hpl : (backTo pos (starEach es X.env)).any (·.1) = false := by rfl) : VE X W (.Call (.Name "sum" p) (a :: es) [] pos) (vCB gSum g) :=
  ve_callB (cr_sum hc) opL_sum hg hm boot_sum ha (by decide) (by decide) he hpl
def gGcd : List D → OR
  | [.int i, .int j] => .sc (.int ((Nat.gcd i.natAbs j.natAbs : Nat) : Int))
  | _ => .no
theorem opL_gcd {K : PySem.W.Frag} : OpL K rGcd gGcd := by
  intro H0 O0 W σ H O e Q ds vs R h p
  unfold gGcd at p
  split at p
  · obtain ⟨v, v', rfl, h1, h2⟩ := args2 h
    cases aInt h1
    cases aInt h2
    exact ⟨_, _, rfl, Post_sc p R (by simp only [Den])⟩
  · exact p.elim
theorem ve_gcd (hg : Gl X x) (hm : X.mg x = some (.builtin "math.gcd")) (ha : VA X W (a :: es) g) (hdb : (x == ("__debug__" : Str)) = false := by decide) (he : starEach (a :: es) X.env = (false, eval a X.env) :: starEach es X.env := by rfl) (hpl : (backTo pos (starEach es X.env)).any (·.1) = false := by rfl) : VE X W (.Call (.Name x p) (a :: es) [] pos) (vCB gGcd g) :=
  ve_callBfun cr_gcd opL_gcd hg hm ha hdb he hpl
/-! isinstance -/
def tyD : D → Option Ty
  | .int _ => some .int
  | .bl _ => some .bool
  | .str _ => some .str
  | .lst _ => some .list
  | .scr _ => some .list
  | .tup _ => some .tuple
  | _ => none
def isa (t n : Ty) : Bool := decide (t = n) || (decide (t = .bool) && decide (n = .int))
def gIsi : List D → OR
  | [.non, .ty _] => .sc (.bl false)
  | [d, .ty n] => (match tyD d with
    | some t => .sc (.bl (isa t n))
    | none => .no)
  | _ => .no
theorem isa_ok {K : PySem.W.Frag} (t n : Ty) : PySem.W.kitOne K (.type t.nm) (.type n.nm) = some (isa t n) := kit_ty (by cases t <;> cases n <;> decide +kernel)
theorem isa_non {K : PySem.W.Frag} (n : Ty) : PySem.W.kitOne K (.type "NoneType") (.type n.nm) = some false := kit_ty (by cases n <;> decide +kernel)
theorem tyX_of {K : PySem.W.Frag} {O : Av} {H : Hp} {d : D} {v : V} {t : Ty} (h : ArgOk K O H d v) (e : tyD d = some t) : TyX K H v (.type t.nm) := by
  cases d with
  | int i => cases e; cases aInt h; exact .base (.int _)
  | bl i => cases e; cases aBl h; exact .base (.bl _)
  | str i => cases e; cases aStr h; exact .base (.str _)
  | lst ds => cases e; obtain ⟨a, xs, rfl, h1, _⟩ := aLst h; exact .base (.lst h1)
  | tup ds =>
    cases e
    obtain ⟨a, xs, rfl, h1, _⟩ := aTup h
    rcases h1 with h1 | ⟨o, its, n, k1, k2, _⟩
    · exact .base (.tup h1)
    · exact .kTuple k1 k2
  | scr ns =>
    cases e
    obtain ⟨a, rfl, h1⟩ := aScr h
    rcases h1 with h1 | ⟨o, its, n, k1, k2, _⟩
    · rcases h1 with h1 | ⟨o, h1⟩
      · exact .base (.lst h1)
      · exact .base (.frz h1)
    · exact .kList k1 k2
  | _ => cases e
theorem opL_isi {K : PySem.W.Frag} : OpL K (rIsi K) gIsi := by
  intro H0 O0 W σ H O e Q ds vs R h p
  unfold gIsi at p
  split at p
  · obtain ⟨v, v', rfl, h1, h2⟩ := args2 h
    cases aNon h1
    cases aTy h2
    exact ⟨_, _, _, _, _, rfl, .ty _, .base .non, isa_non _, Post_sc p R (by simp only [Den])⟩
  · obtain ⟨v, v', rfl, h1, h2⟩ := args2 h
    cases aTy h2
    split at p
    · rename_i t ht
      exact ⟨_, _, _, _, _, rfl, .ty _, tyX_of h1 ht, isa_ok _ _, Post_sc p R (by simp only [Den])⟩
    · exact p.elim
  · exact p.elim
theorem ve_isi (hg : Gl X "isinstance") (hm : X.mg "isinstance" = none) (ha : VA X W (a :: es) g) (he : starEach (a :: es) X.env = (false, eval a X.env) :: starEach es X.env := by rfl) (hpl : (backTo pos (starEach es X.env)).any (·.1) = false := by rfl) : VE X W (.Call (.Name "isinstance" p) (a :: es) [] pos) (vCB gIsi g) :=
  ve_callB call_isi opL_isi hg hm PyProof.Rows.boot_isinstance ha (by decide) (by decide) he hpl
end
end Vi

set_option Elab.async false
set_option linter.all false
set_option maxRecDepth 100000
namespace Vi
open PySem PySem.Spec PyProof.Rows L2

/-! ### what a def promises: by data -/
inductive FR where
  | rt (d : D)
  | fr (ds : List D)
  | ex (x : Xn)
  | no
/-- the arguments; true: read only -/
def ArgsM (K : PySem.W.Frag) (O : Av) (H : Hp) : List Bool → List D → List V → Prop
  | [], [], vs => vs = []
  | b :: bs, d :: ds, vs => ∃ v r, vs = v :: r ∧ (match b with | true => Den K noA H d v | false => Den K O H d v) ∧ ArgsM K O H bs ds r
  | _, _, _ => False
def PostF (K : PySem.W.Frag) (H : Hp) (O : Av) (Q : VK) (E : XK) : FR → Prop
  | .rt d => ∀ (v : V) (H' : Hp), (∀ a o, H a = some o → H' a = some o) → Den K O H' d v → Q v H'
  | .fr ds => ∀ (p : Addr) (xs : List V) (H' : Hp), (∀ a o, H a = some o → H' a = some o) → H p = none → H' p = some (.lst xs) → DenL K (fun a => O a ∨ a = p) H' ds xs → Q (.ref p) H'
  | .ex x => ∀ (H' : Hp) (c : Value) (dd : Option Addr), (∀ a o, H a = some o → H' a = some o) → XOk K O H' x c dd → E c dd H'
  | .no => False
def spV (K : PySem.W.Frag) (bs : List Bool) (F : List D → FR) : Sp := fun vs H Q E => vs.length = bs.length ∧ ∃ (O : Av) (ds : List D), (∀ a, O a → Mt (H a)) ∧ ArgsM K O H bs ds vs ∧ PostF K H O Q E (F ds)
theorem ArgsM.length {K : PySem.W.Frag} {O : Av} {H : Hp} : ∀ {bs : List Bool} {ds : List D} {vs : List V}, ArgsM K O H bs ds vs → vs.length = bs.length
  | [], [], vs, h => by have h' : vs = [] := h; subst h'; rfl
  | b :: bs, d :: ds, vs, h => by
    obtain ⟨v, r, rfl, _, h2⟩ := h
    simp [ArgsM.length h2]
  | [], _ :: _, _, h => h.elim
  | _ :: _, [], _, h => h.elim
def FR.fin (r : FR) (e : VEnv) : RE := match r with
  | .rt d => .ok .sh d e
  | .fr ds => .ok .fr (.lst ds) e
  | .ex x => .ex x e
  | .no => .no
/-- what is written for a parameter -/
def fitM : List Bool → List (Kd × D) → Bool
  | [], [] => true
  | true :: bs, _ :: l => fitM bs l
  | false :: bs, (.sh, _) :: l => fitM bs l
  | _, _ => false
def vCall (bs : List Bool) (F : List D → FR) (g : VEnv → RA) : VEnv → RE := fun env => match g env with
  | .ok l e => (match fitM bs l with
    | true => (F (l.map Prod.snd)).fin e
    | false => .no)
  | .ex x e => .ex x e
  | .no => .no
section
variable {K : PySem.W.Frag} {H0 : H0T} {H H' H1 : Hp} {O0 O O' O1 : Av} {W : WX} {env e : VEnv} {σ : L2.St} {Q : VK}
theorem fitM_ok (R : Rel K H0 O0 e σ H O) : ∀ {bs : List Bool} {l : List (Kd × D)} {vs : List V}, HeldL K H0 O H l vs → fitM bs l = true → ArgsM K O H bs (l.map Prod.snd) vs
  | [], [], vs, h, _ => h
  | true :: bs, (k, d) :: l, vs, h, a => by
    obtain ⟨v, r, e, h1, h2⟩ := h
    exact ⟨v, r, e, h1.den R, fitM_ok R h2 a⟩
  | false :: bs, (.sh, d) :: l, vs, h, a => by
    obtain ⟨v, r, e, h1, h2⟩ := h
    exact ⟨v, r, e, h1, fitM_ok R h2 a⟩
  | false :: _, (.tnt, _) :: _, _, _, a => by cases a
  | false :: _, (.fr, _) :: _, _, _, a => by cases a
  | false :: _, (.own _, _) :: _, _, _, a => by cases a
  | [], _ :: _, _, _, a => by cases a
  | _ :: _, [], _, _, a => by rename_i b _ _ _; cases b <;> cases a
theorem postF_of {r : FR} {ds : List D} (R : Rel K H0 O0 e σ H O) (p : PostE K H0 O0 W σ H O Q (r.fin e)) : PostF K H O Q (WE W σ) r := by
  cases r with
  | rt d => exact fun v H' k hd => p v H' O (R.kept k) ⟨k, fun _ z => .inl z⟩ hd
  | fr ds =>
    intro q xs H' k hq he hd
    have st : StepE O H (fun a => O a ∨ a = q) H' := ⟨k, fun a z => z.elim .inl fun e => .inr (by rw [e]; exact hq)⟩
    refine p (.ref q) H' _ (R.grow hq k (by rw [he]; exact True.intro)) st ⟨q, rfl, .inr rfl, R.h0 hq, ⟨xs, he, hd⟩, fun i z e1 e2 => ?_⟩
    obtain ⟨v', e3, a, ev, hO, _⟩ := R.slot i _ e1
    rw [e2] at e3
    cases e3
    cases ev
    exact R.noO hq hO
  | ex x => exact fun H' c dd k hx => p H' O c dd (R.kept k) ⟨k, fun _ z => .inl z⟩ hx
  | no => exact p
theorem tV_call {bs : List Bool} {F : List D → FR} {g : VEnv → RA} (h : tV K H0 O0 W (vCall bs F g) σ H Q) : tCallS (spV K bs F) (WE W) (tVA K H0 O0 W g) σ H Q := by
  obtain ⟨env, O, R, post⟩ := h
  refine ⟨env, O, R, ?_⟩
  unfold vCall at post
  cases e : g env with
  | ok l e1 =>
    rw [e] at post
    dsimp only at post
    intro vs H' O' R' s' hl
    cases q : fitM bs l with
    | false => rw [q] at post; exact post.elim
    | true =>
      rw [q] at post
      have ha := fitM_ok R' hl q
      exact ⟨ha.length, O', _, R'.mt, ha, postF_of (ds := []) R' (PostE.from s' post)⟩
  | ex x e1 => rw [e] at post; exact post
  | no => rw [e] at post; exact post
end
section
variable {X : Cx} {W : WX} {pos p : Pos} {a b c : Expr} {es : List Expr} {g : VEnv → RA} {x : Str} {k : Nat} {f : Addr} {fd : FuncData} {ps : List Str} {bs : List Bool} {F : List D → FR}
theorem ve_call (hF : FnOk X.prog X.w X.K X.mg X.base (L2.CX X.prog X.w) k f fd ps (spV X.K bs F)) (hr : Room k X.A) (hg : Gl X x) (hm : X.mg x = some (.ref f)) (hk : PySem.W.keepIn X.K (.ref f) = true) (hb : Binds X.K fd ps []) (tk : Takes X W)
    (ha : VA X W (a :: es) g) (hdb : (x == ("__debug__" : Str)) = false := by decide) (he : starEach (a :: es) X.env = (false, eval a X.env) :: starEach es X.env := by rfl) (hpl : (backTo pos (starEach es X.env)).any (·.1) = false := by rfl) :
    VE X W (.Call (.Name x p) (a :: es) [] pos) (vCall bs F g) :=
  fun H0 O0 hx => PE.imp (pe_callS hF hr hg hm hk hb (fun σ => passAt tk σ) (ha H0 O0 hx) hdb he hpl) fun σ H Q h => tV_call h
/-! ### comparisons in a chain: a < b < c -/
def vChain (G1 G2 : D → D → Option D) (fa fb fc : VEnv → RE) : VEnv → RE := v2 (fun k1 d1 k2 d2 e => match G1 d1 d2 with
  | some (.bl true) => (fc e).rel.bind fun _ d3 e3 => (match G2 d2 d3 with
    | some z => .ok .sh z e3
    | none => .no)
  | some (.bl false) => .ok .sh (.bl false) e
  | _ => .no) fa fb
theorem den_bl {K : PySem.W.Frag} {O : Av} {H : Hp} {b : Bool} {v : V} (h : Den K O H (.bl b) v) : v = .bl b := by simpa only [Den] using h
theorem tV_chain {K : PySem.W.Frag} {H0 : H0T} {H : Hp} {O0 : Av} {σ : L2.St} {Q : VK} {fa fb fc : VEnv → RE} {r r' : R2} {G1 G2 : D → D → Option D} (hG1 : OpS K r G1) (hG2 : OpS K r' G2) (h : tV K H0 O0 W (vChain G1 G2 fa fb fc) σ H Q) :
    tChain r r' (tV K H0 O0 W fa) (tV K H0 O0 W fb) (tV K H0 O0 W fc) σ H Q := by
  refine tV2 h fun k1 d1 k2 d2 e2 x y H2 O2 R2 hx hy p => ?_
  cases q : G1 d1 d2 with
  | none => rw [q] at p; exact p.elim
  | some z =>
    cases z with
    | bl b =>
      refine hG1 d1 d2 (.bl b) x y H2 _ q (hx.den R2) (hy.den R2) fun w hw => ?_
      rw [den_bl (hw noA)]
      refine ⟨b, rfl, ?_⟩
      rw [q] at p
      cases b with
      | false => exact Post_now p R2 (by show Den _ _ _ _ _; simp only [Den])
      | true =>
        rw [if_pos rfl]
        refine ⟨e2, O2, R2, Post_rbind p fun k3 d3 e3 w3 H3 O3 R3 s3 h3 p3 => ?_⟩
        cases q3 : G2 d2 d3 with
        | none => rw [q3] at p3; exact p3.elim
        | some z3 =>
          rw [q3] at p3
          exact hG2 d2 d3 z3 y w3 H3 Q q3 ((Held.step s3 hy).den R3) (h3.den R3) fun w hw => Post_now p3 R3 (hw O3)
    | _ => rw [q] at p; exact p.elim
theorem ve_chain {op op' : CmpOp} {fa fb fc : VEnv → RE} {r r' : R2} {G1 G2 : D → D → Option D} (ho : OpR X (compareOp op) r) (ho' : OpR X (compareOp op') r') (hG1 : OpS X.K r G1) (hG2 : OpS X.K r' G2) (ha : VE X W a fa) (hb : VE X W b fb) (hc : VE X W c fc)
    (hm : lastMarks [op, op'] [b, c] = false := by with_unfolding_all rfl) : VE X W (.Compare a [op, op'] [b, c] pos) (vChain G1 G2 fa fb fc) :=
  fun H0 O0 hx => PE.imp (pe_chain ho ho' (ha H0 O0 hx) (hb H0 O0 hx) (hc H0 O0 hx) hm) fun σ H Q h => tV_chain hG1 hG2 h
theorem bly_chain {fa fb fc : VEnv → RE} {G1 G2 : D → D → Option D} (hB : ∀ x y z, G2 x y = some z → ∃ b, z = .bl b) : Bly (vChain G1 G2 fa fb fc) := by
  intro env k d e h
  unfold vChain v2 RE.bind at h
  try dsimp only at h
  split at h
  · try dsimp only at h
    split at h
    · try dsimp only at h
      split at h
      · split at h
        · try dsimp only at h
          split at h
          · rename_i z hz
            cases h
            exact hB _ _ _ hz
          · cases h
        · cases h
        · cases h
      · cases h
        exact ⟨_, rfl⟩
      · cases h
    · cases h
    · cases h
  · cases h
  · cases h
theorem vt_chain {op op' : CmpOp} {fa fb fc : VEnv → RE} {r r' : R2} {G1 G2 : D → D → Option D} (ho : OpR X (compareOp op) r) (ho' : OpR X (compareOp op') r') (hG1 : OpS X.K r G1) (hG2 : OpS X.K r' G2) (hB : ∀ x y z, G2 x y = some z → ∃ b, z = .bl b) (ha : VE X W a fa) (hb : VE X W b fb) (hc : VE X W c fc)
    (hm : lastMarks [op, op'] [b, c] = false := by with_unfolding_all rfl) : VT X W (.Compare a [op, op'] [b, c] pos) (vTru (vChain G1 G2 fa fb fc)) :=
  fun H0 O0 hx => PT.imp (pt_chain ho ho' (ha H0 O0 hx) (hb H0 O0 hx) (hc H0 O0 hx) hm) fun σ H Q h => tV_chain hG1 hG2 (tV_truB (bly_chain hB) h)
/-! named pairs: operator, its reading, its mirror -/
theorem o_lt {K : PySem.W.Frag} : OpS K (rI0 fun i j => .bl (decide (i < j))) gLt := opS_I0 fun _ _ _ _ => by simp only [Den]
theorem o_le {K : PySem.W.Frag} : OpS K (rI0 fun i j => .bl (decide (i ≤ j))) gLe := opS_I0 fun _ _ _ _ => by simp only [Den]
theorem o_gt {K : PySem.W.Frag} : OpS K (rI0 fun i j => .bl (decide (j < i))) gGt := opS_I0 fun _ _ _ _ => by simp only [Den]
theorem o_ge {K : PySem.W.Frag} : OpS K (rI0 fun i j => .bl (decide (j ≤ i))) gGe := opS_I0 fun _ _ _ _ => by simp only [Den]
/-! ### in -/
def scal : D → Bool
  | .non => true
  | .bl _ => true
  | .int _ => true
  | .str _ => true
  | _ => false
def scV : D → V
  | .bl b => .bl b
  | .int i => .int i
  | .str s => .str s
  | _ => .non
def eqS : D → D → Bool
  | .non, .non => true
  | .bl a, .bl b => a == b
  | .bl a, .int b => (if a then 1 else 0) == b
  | .int a, .bl b => a == (if b then 1 else 0)
  | .int a, .int b => a == b
  | .str a, .str b => a == b
  | _, _ => false
theorem scal_den {K : PySem.W.Frag} {O : Av} {H : Hp} {d : D} {v : V} (h : Den K O H d v) (f : scal d = true) : v = scV d ∧ flatV v = true := by
  cases d with
  | non => simp only [Den] at h; subst h; exact ⟨rfl, rfl⟩
  | bl b => simp only [Den] at h; subst h; exact ⟨rfl, rfl⟩
  | int b => simp only [Den] at h; subst h; exact ⟨rfl, rfl⟩
  | str b => simp only [Den] at h; subst h; exact ⟨rfl, rfl⟩
  | _ => cases f
theorem scal_eq {a b : D} (ha : scal a = true) (hb : scal b = true) : eqV (scV a) (scV b) = eqS a b := by
  cases a <;> first | (cases ha; done) | (cases b <;> first | (cases hb; done) | rfl)
theorem scal_denL {K : PySem.W.Frag} {O : Av} {H : Hp} : ∀ {ds : List D} {vs : List V}, DenL K O H ds vs → ds.all scal = true → vs = ds.map scV ∧ vs.all flatV = true
  | [], vs, h, _ => by rw [h.nil_eq]; exact ⟨rfl, rfl⟩
  | d :: ds, vs, h, f => by
    obtain ⟨x, r, rfl, h1, h2⟩ := h.uncons
    simp only [List.all_cons, Bool.and_eq_true] at f
    obtain ⟨e1, e2⟩ := scal_den h1 f.1
    obtain ⟨e3, e4⟩ := scal_denL h2 f.2
    exact ⟨by rw [e1, e3]; rfl, by rw [List.all_cons, e2, e4]; rfl⟩
theorem scal_any {x : D} (fx : scal x = true) : ∀ {ds : List D}, ds.all scal = true → inV (scV x) (ds.map scV) = ds.any fun d => eqS d x
  | [], _ => rfl
  | d :: ds, f => by
    simp only [List.all_cons, Bool.and_eq_true] at f
    have ih := scal_any fx f.2
    unfold inV at ih ⊢
    rw [List.map_cons, List.any_cons, List.any_cons, scal_eq f.1 fx, ih]
def inD (x y : D) : Option Bool := match itemsOf y with
  | some ds => if scal x && ds.all scal then some (ds.any fun d => eqS d x) else (match y with
    | .lst _ => if plain x && (plain y && (SeqAt.shaped (py x) && SeqAt.shaped (py y))) then some ((pyL ds).any fun z => PyData.eqv z (py x)) else none
    | _ => none)
  | none => none
def gIn (x y : D) : Option D := (inD x y).map D.bl
def gNotIn (x y : D) : Option D := (inD x y).map fun b => D.bl (!b)
theorem items_seq {K : PySem.W.Frag} {O : Av} {H : Hp} {y : D} {u : V} {ds : List D} (h : Den K O H y u) (e : itemsOf y = some ds) : ∃ a xs, u = .ref a ∧ (SqL K H a xs ∨ SqT K H a xs) ∧ DenL K O H ds xs := by
  cases y with
  | lst ds' =>
    cases e
    simp only [Den] at h
    obtain ⟨a, xs, e1, _, h1, h2⟩ := h
    exact ⟨a, xs, e1, .inl (SqL.of h1), h2⟩
  | tup ds' =>
    cases e
    simp only [Den] at h
    obtain ⟨a, xs, e1, h1, h2⟩ := h
    exact ⟨a, xs, e1, .inr (sqT_of (seq_tup h1)), h2⟩
  | scr ns =>
    cases e
    simp only [Den] at h
    obtain ⟨a, e1, h1⟩ := h
    exact ⟨a, _, e1, .inl (seq_scr h1), denL_ints ns⟩
  | _ => cases e
def rInA (K : PySem.W.Frag) : R2 := fun x y H Q => rIn K false x y H Q ∨ rInD K x y H Q
def rNotInA (K : PySem.W.Frag) : R2 := fun x y H Q => rIn K true x y H Q ∨ rNotInD K x y H Q
theorem in_core {K : PySem.W.Frag} {neg : Bool} {x y : D} {v u : V} {H : Hp} {b : Bool} {Q : VK} (h : inD x y = some b) (hx : Den K noA H x v) (hy : Den K noA H y u) (q : Q (.bl (if neg then !b else b)) H) :
    rIn K neg v u H Q ∨ (∃ d ds, Dp K H v d ∧ Dp K H u (.list ds) ∧ SeqAt.shaped d = true ∧ SeqAt.shaped (.list ds) = true ∧ Q (.bl (if neg then !(ds.any fun z => PyData.eqv z d) else ds.any fun z => PyData.eqv z d)) H) := by
  unfold inD at h
  split at h
  · rename_i ds hi
    split at h
    · rename_i f
      cases h
      simp only [Bool.and_eq_true] at f
      obtain ⟨a, xs, rfl, h1, h2⟩ := items_seq hy hi
      obtain ⟨e1, e2⟩ := scal_den hx f.1
      obtain ⟨e3, e4⟩ := scal_denL h2 f.2
      refine .inl ⟨a, xs, rfl, h1, e2, e4, ?_⟩
      rw [e1, e3, scal_any f.1 f.2]
      exact q
    · split at h
      · rename_i ds' 
        split at h
        · rename_i f
          cases h
          cases hi
          simp only [Bool.and_eq_true] at f
          have h1 := den_dp x v f.1 hx
          have h2 := den_dp (.lst ds) u f.2.1 hy
          simp only [py] at h2
          exact .inr ⟨py x, pyL ds, h1, h2, f.2.2.1, by simpa only [py] using f.2.2.2, q⟩
        · cases h
      · cases h
  · cases h
theorem opS_in {K : PySem.W.Frag} : OpS K (rInA K) gIn := by
  intro x y z v u H Q h hx hy q
  unfold gIn at h
  simp only [Option.map_eq_some_iff] at h
  obtain ⟨b, hb, rfl⟩ := h
  exact (in_core (neg := false) hb hx hy (q _ fun O => by simp only [Den]; rfl)).imp id fun ⟨d, ds, h1, h2, h3, h4, h5⟩ => ⟨d, ds, h1, h2, h3, h4, h5⟩
theorem opS_notIn {K : PySem.W.Frag} : OpS K (rNotInA K) gNotIn := by
  intro x y z v u H Q h hx hy q
  unfold gNotIn at h
  simp only [Option.map_eq_some_iff] at h
  obtain ⟨b, hb, rfl⟩ := h
  exact (in_core (neg := true) hb hx hy (q _ fun O => by simp only [Den]; rfl)).imp id fun ⟨d, ds, h1, h2, h3, h4, h5⟩ => ⟨d, ds, h1, h2, h3, h4, h5⟩
theorem op_inA (hu : X.A.units + 65 < cLine) : OpR X (compareOp .In) (rInA X.K) := op_in_seq.or (op_inD hu)
theorem op_notInA (hu : X.A.units + 65 < cLine) : OpR X (compareOp .NotIn) (rNotInA X.K) := op_notIn_seq.or (op_notInD hu)
theorem gIn_bl : ∀ x y z, gIn x y = some z → ∃ b, z = .bl b := fun x y z h => by
  unfold gIn at h
  simp only [Option.map_eq_some_iff] at h
  obtain ⟨b, _, rfl⟩ := h
  exact ⟨_, rfl⟩
theorem gNotIn_bl : ∀ x y z, gNotIn x y = some z → ∃ b, z = .bl b := fun x y z h => by
  unfold gNotIn at h
  simp only [Option.map_eq_some_iff] at h
  obtain ⟨b, _, rfl⟩ := h
  exact ⟨_, rfl⟩
section
variable {fa fb : VEnv → RE}
theorem ve_in (hu : X.A.units + 65 < cLine) (ha : VE X W a fa) (hb : VE X W b fb) (hm : behindInMarks .In b = false := by rfl) : VE X W (.Compare a [.In] [b] pos) (vOp gIn fa fb) := ve_cmp (op_inA hu) opS_in ha hb hm
theorem ve_notIn (hu : X.A.units + 65 < cLine) (ha : VE X W a fa) (hb : VE X W b fb) (hm : behindInMarks .NotIn b = false := by rfl) : VE X W (.Compare a [.NotIn] [b] pos) (vOp gNotIn fa fb) := ve_cmp (op_notInA hu) opS_notIn ha hb hm
theorem vt_in (hu : X.A.units + 65 < cLine) (ha : VE X W a fa) (hb : VE X W b fb) (hm : behindInMarks .In b = false := by rfl) : VT X W (.Compare a [.In] [b] pos) (vTru (vOp gIn fa fb)) := vt_cmp (op_inA hu) opS_in gIn_bl ha hb hm
theorem vt_notIn (hu : X.A.units + 65 < cLine) (ha : VE X W a fa) (hb : VE X W b fb) (hm : behindInMarks .NotIn b = false := by rfl) : VT X W (.Compare a [.NotIn] [b] pos) (vTru (vOp gNotIn fa fb)) := vt_cmp (op_notInA hu) opS_notIn gNotIn_bl ha hb hm
end
/-! is True, is False -/
def gIsB : D → D → Option D
  | .bl a, .bl b => some (.bl (decide (a = b)))
  | _, _ => none
def gNotB : D → D → Option D
  | .bl a, .bl b => some (.bl (!decide (a = b)))
  | _, _ => none
theorem opS_isB {K : PySem.W.Frag} : OpS K rIsB gIsB := by
  intro x y z v u H Q h hx hy q
  unfold gIsB at h
  split at h
  · cases h
    simp only [Den] at hx hy
    exact ⟨_, _, hx, hy, q _ fun O => by simp only [Den]⟩
  · cases h
theorem opS_notB {K : PySem.W.Frag} : OpS K rNotB gNotB := by
  intro x y z v u H Q h hx hy q
  unfold gNotB at h
  split at h
  · cases h
    simp only [Den] at hx hy
    exact ⟨_, _, hx, hy, q _ fun O => by simp only [Den]⟩
  · cases h
theorem gIsB_bl : ∀ x y z, gIsB x y = some z → ∃ b, z = .bl b := fun x y z h => by
  unfold gIsB at h
  split at h
  · cases h; exact ⟨_, rfl⟩
  · cases h
theorem gNotB_bl : ∀ x y z, gNotB x y = some z → ∃ b, z = .bl b := fun x y z h => by
  unfold gNotB at h
  split at h
  · cases h; exact ⟨_, rfl⟩
  · cases h
section
variable {fa fb : VEnv → RE}
theorem ve_isB (ha : VE X W a fa) (hb : VE X W b fb) : VE X W (.Compare a [.Is] [b] pos) (vOp gIsB fa fb) := ve_cmp op_isBl opS_isB ha hb (nomark _)
theorem ve_notB (ha : VE X W a fa) (hb : VE X W b fb) : VE X W (.Compare a [.IsNot] [b] pos) (vOp gNotB fa fb) := ve_cmp op_notBl opS_notB ha hb (nomark _)
theorem vt_isB (ha : VE X W a fa) (hb : VE X W b fb) : VT X W (.Compare a [.Is] [b] pos) (vTru (vOp gIsB fa fb)) := vt_cmp op_isBl opS_isB gIsB_bl ha hb (nomark _)
theorem vt_notB (ha : VE X W a fa) (hb : VE X W b fb) : VT X W (.Compare a [.IsNot] [b] pos) (vTru (vOp gNotB fa fb)) := vt_cmp op_notBl opS_notB gNotB_bl ha hb (nomark _)
end
end
end Vi

set_option Elab.async false
set_option linter.all false
set_option maxRecDepth 100000
namespace Vi
open PySem PySem.Spec PyProof.Rows L2

/-! ### what is walked -/
def Fits (H0 : H0T) (O : Av) (H : Hp) : Prop := (∀ a o, H0 a = some o → H a = some o) ∧ ∀ a, O a → Mt (H a)
theorem Rel.fits {K : PySem.W.Frag} {H0 : H0T} {H : Hp} {O0 O : Av} {e : VEnv} {σ : L2.St} (R : Rel K H0 O0 e σ H O) : Fits H0 O H := ⟨R.ext, R.mt⟩
/-- P holds and stays -/
def Stays (H0 : H0T) (P : Av → Hp → Prop) (O : Av) (H : Hp) : Prop := ∀ O' H', Step O H O' H' → Fits H0 O' H' → P O' H'
theorem Stays.step {H0 : H0T} {P : Av → Hp → Prop} {O O' : Av} {H H' : Hp} (st : Step O H O' H') (h : Stays H0 P O H) : Stays H0 P O' H' := fun O2 H2 s2 f2 => h O2 H2 (st.trans s2) f2
def Walks (K : PySem.W.Frag) (H0 : H0T) (J : It) (k : Kd) (ds : List D) (O : Av) (H : Hp) : Prop := (∀ i, ds.length ≤ i → J.stop i H) ∧ ∀ i d, ds[i]? = some d → J.go i H ∧ ∀ x H', J.yld i H x H' → (∀ a o, H a = some o → H' a = some o) ∧ ItemOk K H0 O H' k d x
def IterOk (K : PySem.W.Frag) (H0 : H0T) (J : It) (k : Kd) (ds : List D) : Av → Hp → Prop := Stays H0 (Walks K H0 J k ds)
inductive RI where
  | ok (k : Kd) (ds : List D) (e : VEnv)
  | ex (x : Xn) (e : VEnv)
  | no
def PostI (K : PySem.W.Frag) (H0 : H0T) (O0 : Av) (W : WX) (σ : L2.St) (H : Hp) (O : Av) (R : It → Hp → Prop) : RI → Prop
  | .ok k ds e => ∀ (J : It) (H' : Hp) (O' : Av), Rel K H0 O0 e σ H' O' → StepE O H O' H' → IterOk K H0 J k ds O' H' → R J H'
  | .ex x e => ∀ (H' : Hp) (O' : Av) (c : Value) (dd : Option Addr), Rel K H0 O0 e σ H' O' → StepE O H O' H' → XOk K O' H' x c dd → W c dd σ H'
  | .no => False
def tVI (K : PySem.W.Frag) (H0 : H0T) (O0 : Av) (W : WX) (f : VEnv → RI) : TI := fun σ H R => ∃ env O, Rel K H0 O0 env σ H O ∧ PostI K H0 O0 W σ H O R (f env)
def VI (X : Cx) (W : WX) (tg e : Expr) (f : VEnv → RI) : Prop := ∀ (H0 : H0T) (O0 : Av), HX X H0 → PI X tg e (tVI X.K H0 O0 W f)
theorem PI.imp {X : Cx} {tg e : Expr} {t t' : TI} (h : PI X tg e t) (i : ∀ σ H R, t' σ H R → t σ H R) : PI X tg e t' := ⟨fun pins s σ H R I q => h.run pins s σ H R I (i σ H R q)⟩
theorem PI.or {X : Cx} {tg e : Expr} {t t' : TI} (h : PI X tg e t) (h' : PI X tg e t') : PI X tg e (fun σ H R => t σ H R ∨ t' σ H R) := ⟨fun pins s σ H R I q => q.elim (h.run pins s σ H R I) (h'.run pins s σ H R I)⟩
theorem PostI.from {K : PySem.W.Frag} {H0 : H0T} {H H1 : Hp} {O0 O O1 : Av} {W : WX} {σ : L2.St} {R : It → Hp → Prop} (st : StepE O H O1 H1) {r : RI} (h : PostI K H0 O0 W σ H O R r) : PostI K H0 O0 W σ H1 O1 R r := by
  cases r with
  | ok k d e => exact fun v H' O' R s k => h v H' O' R (st.trans s) k
  | ex x e => exact fun H' O' c dd R s => h H' O' c dd R (st.trans s)
  | no => exact h
/-- what is walked is let go; a list that is read only stays so -/
def RE.itr : RE → RE
  | .ok .fr d e => .ok .sh d e
  | .ok (.own i) d e => .ok .sh d (e.set i (some (.sh, d)))
  | r => r
section
variable {K : PySem.W.Frag} {H0 : H0T} {H H' H1 : Hp} {O0 O O' O1 : Av} {W : WX} {env e : VEnv} {σ : L2.St} {Q : VK}
theorem Post_itr {r : RE} (h : PostE K H0 O0 W σ H O Q r.itr) : PostE K H0 O0 W σ H O Q r := by
  cases r with
  | ok k d e1 =>
    cases k with
    | fr =>
      intro v H' O' R st k
      obtain ⟨O'', R', s', hd⟩ := rel_fr R st k
      exact h v H' O'' R' s' hd
    | own i =>
      intro v H' O' R st k
      obtain ⟨O'', R', s', hd⟩ := rel_own R st k
      exact h v H' O'' R' s' hd
    | tnt => exact h
    | sh => exact h
  | _ => exact h
inductive Ks : Kd → Prop where
  | sh : Ks .sh
  | tnt : Ks .tnt
theorem ks_itr {r : RE} {k : Kd} {d : D} {e : VEnv} (h : r.itr = .ok k d e) : Ks k := by
  cases r with
  | ok k' d' e' =>
    cases k' with
    | fr => simp only [RE.itr] at h; cases h; exact .sh
    | own i => simp only [RE.itr] at h; cases h; exact .sh
    | tnt => simp only [RE.itr] at h; cases h; exact .tnt
    | sh => simp only [RE.itr] at h; cases h; exact .sh
  | _ => simp [RE.itr] at h
def isT : D → Bool
  | .tup _ => true
  | _ => false
/-- a held sequence stays, with its items -/
theorem held_stays {k : Kd} {x : D} {v : V} {ds : List D} (R : Rel K H0 O0 e σ H O) (hk : Ks k) (h : Held K H0 O H k x v) (hi : itemsOf x = some ds) :
    ∃ a xs, v = .ref a ∧ Stays H0 (fun O' H' => (isT x = false → SqL K H' a xs) ∧ (isT x = true → SqT K H' a xs) ∧ ItemsOk K H0 O' H' k ds xs) O H := by
  cases hk with
  | sh =>
    have hd : Den K O H x v := h
    cases x with
    | lst ds' =>
      cases hi
      simp only [Den] at hd
      obtain ⟨a, xs, e1, hn, h1, h2⟩ := hd
      exact ⟨a, xs, e1, fun O' H' st f => ⟨fun _ => SqL.of (st.keep _ _ hn h1), fun z => (by cases z), DenL.step st _ _ h2⟩⟩
    | tup ds' =>
      cases hi
      simp only [Den] at hd
      obtain ⟨a, xs, e1, h1, h2⟩ := hd
      refine ⟨a, xs, e1, fun O' H' st f => ⟨fun z => (by cases z), fun _ => sqT_of ?_, DenL.step st _ _ h2⟩⟩
      exact h1.elim (fun z => .inl (st.keep _ _ z.1 z.2)) .inr
    | scr ns =>
      cases hi
      simp only [Den] at hd
      obtain ⟨a, e1, h1⟩ := hd
      refine ⟨a, _, e1, fun O' H' st f => ⟨fun _ => ?_, fun z => (by cases z), denL_ints ns⟩⟩
      rcases h1 with ⟨n, o, z⟩ | z
      · exact .inl (.inr ⟨o, st.keep _ _ n z⟩)
      · exact .inr z
    | _ => cases hi
  | tnt =>
    have hd : Den K noA H0 x v := h
    cases x with
    | lst ds' =>
      cases hi
      simp only [Den] at hd
      obtain ⟨a, xs, e1, _, h1, h2⟩ := hd
      exact ⟨a, xs, e1, fun O' H' st f => ⟨fun _ => SqL.of (f.1 _ _ h1), fun z => (by cases z), h2⟩⟩
    | tup ds' =>
      cases hi
      simp only [Den] at hd
      obtain ⟨a, xs, e1, h1, h2⟩ := hd
      refine ⟨a, xs, e1, fun O' H' st f => ⟨fun z => (by cases z), fun _ => sqT_of ?_, h2⟩⟩
      exact h1.elim (fun z => .inl (f.1 _ _ z.2)) .inr
    | scr ns =>
      cases hi
      simp only [Den] at hd
      obtain ⟨a, e1, h1⟩ := hd
      refine ⟨a, _, e1, fun O' H' st f => ⟨fun _ => ?_, fun z => (by cases z), denL_ints ns⟩⟩
      rcases h1 with ⟨n, o, z⟩ | z
      · exact .inl (.inr ⟨o, f.1 _ _ z⟩)
      · exact .inr z
    | _ => cases hi
theorem items_get {k : Kd} {ds : List D} {xs : List V} {i : Nat} {d : D} (hk : Ks k) (h : ItemsOk K H0 O H k ds xs) (e : ds[i]? = some d) : ∃ x, xs[i]? = some x ∧ ItemOk K H0 O H k d x := by
  cases hk with
  | sh => exact DenL.get' (ds := ds) h e
  | tnt => exact DenL.get' (ds := ds) h e
theorem items_len {k : Kd} {ds : List D} {xs : List V} (hk : Ks k) (h : ItemsOk K H0 O H k ds xs) : ds.length = xs.length := by
  cases hk with
  | sh => exact DenL.length (ds := ds) h
  | tnt => exact DenL.length (ds := ds) h
theorem iter_list {k : Kd} {a : Addr} {xs : List V} {ds : List D} (hk : Ks k) (h : Stays H0 (fun O' H' => SqL K H' a xs ∧ ItemsOk K H0 O' H' k ds xs) O H) : IterOk K H0 (Itl K a) k ds O H := by
  intro O' H' st f
  obtain ⟨h1, h2⟩ := h O' H' st f
  refine ⟨fun i hi => ⟨xs, h1, by rw [← items_len hk h2]; exact hi⟩, fun i d hd => ?_⟩
  obtain ⟨x, hx, ho⟩ := items_get hk h2 hd
  refine ⟨⟨xs, x, h1, hx⟩, fun y H2 hy => ?_⟩
  obtain ⟨e, hy⟩ := hy
  subst e
  have q := hy xs h1
  rw [hx] at q
  cases q
  exact ⟨fun _ _ z => z, ho⟩
theorem iter_tup {k : Kd} {a : Addr} {xs : List V} {ds : List D} (hk : Ks k) (h : Stays H0 (fun O' H' => SqT K H' a xs ∧ ItemsOk K H0 O' H' k ds xs) O H) : IterOk K H0 (Itt K a) k ds O H := by
  intro O' H' st f
  obtain ⟨h1, h2⟩ := h O' H' st f
  refine ⟨fun i hi => ⟨xs, h1, by rw [← items_len hk h2]; exact hi⟩, fun i d hd => ?_⟩
  obtain ⟨x, hx, ho⟩ := items_get hk h2 hd
  refine ⟨⟨xs, x, h1, hx⟩, fun y H2 hy => ?_⟩
  obtain ⟨e, hy⟩ := hy
  subst e
  have q := hy xs h1
  rw [hx] at q
  cases q
  exact ⟨fun _ _ z => z, ho⟩
theorem range_get {n i : Nat} {d : D} {f : Nat → D} (h : ((List.range n).map f)[i]? = some d) : i < n ∧ d = f i := by
  rw [List.getElem?_map] at h
  simp only [Option.map_eq_some_iff] at h
  obtain ⟨j, hj, rfl⟩ := h
  have q := List.getElem?_eq_some_iff.mp hj
  obtain ⟨q1, q2⟩ := q
  simp at q1 q2
  exact ⟨q1, by rw [q2]⟩
theorem iter_range {lo : Int} {n : Nat} : IterOk K H0 (Itr lo n) .sh ((List.range n).map fun (i : Nat) => D.int (lo + i)) O H := by
  intro O' H' st f
  refine ⟨fun i hi => (by show n ≤ i; simpa using hi), fun i d hd => ?_⟩
  obtain ⟨h1, rfl⟩ := range_get hd
  refine ⟨h1, fun y H2 hy => ?_⟩
  obtain ⟨e, hy⟩ := hy
  subst e
  subst hy
  exact ⟨fun _ _ z => z, by simp only [ItemOk, Den]⟩
theorem iter_rangeC {lo c : Int} {n : Nat} : IterOk K H0 (Itc lo c n) .sh ((List.range n).map fun (i : Nat) => D.int (lo + i * c)) O H := by
  intro O' H' st f
  refine ⟨fun i hi => (by show n ≤ i; simpa using hi), fun i d hd => ?_⟩
  obtain ⟨h1, rfl⟩ := range_get hd
  refine ⟨h1, fun y H2 hy => ?_⟩
  obtain ⟨e, hy⟩ := hy
  subst e
  subst hy
  exact ⟨fun _ _ z => z, by simp only [ItemOk, Den]⟩
/-- a pair that a zip or an enumerate gives -/
theorem pair_new {T : Addr} {d1 d2 : D} {x y : V} (f : Fits H0 O H) (hT : H T = none) (h1 : Den K O H d1 x) (h2 : Den K O H d2 y) : (∀ a o, H a = some o → upd H T (.tup [x, y]) a = some o) ∧ Den K O (upd H T (.tup [x, y])) (.tup [d1, d2]) (.ref T) := by
  have k : ∀ a o, H a = some o → upd H T (.tup [x, y]) a = some o := fun a o q => by
    rw [upd_ne (ne_of_none q hT)]
    exact q
  refine ⟨k, ?_⟩
  have st : Step O H O (upd H T (.tup [x, y])) := ⟨fun a o _ q => k a o q, fun _ z => .inl z⟩
  simp only [Den]
  refine ⟨T, [x, y], rfl, .inl ⟨fun z => ?_, upd_same⟩, DenL.cons (Den.step st d1 x h1) (DenL.cons (Den.step st d2 y h2) DenL.nil)⟩
  have q := f.2 T z
  rw [hT] at q
  exact q
end

section
variable {X : Cx} {W : WX} {tg a b c : Expr} {es : List Expr} {p pos : Pos} {fa fb : VEnv → RE} {g : VEnv → RA}
def viSeq (fa : VEnv → RE) : VEnv → RI := fun env => match (fa env).itr with
  | .ok k d e => (match itemsOf d with
    | some ds => .ok k ds e
    | none => .no)
  | .ex x e => .ex x e
  | .no => .no
theorem vi_seq (ha : VE X W a fa) : VI X W tg a (viSeq fa) := fun H0 O0 hx => PI.imp (PI.or (pi_list (ha H0 O0 hx)) (pi_tup (ha H0 O0 hx))) fun σ H R h => by
  obtain ⟨env, O, Rl, post⟩ := h
  unfold viSeq at post
  cases e : (fa env).itr with
  | ok k d e1 =>
    rw [e] at post
    dsimp only at post
    cases q : itemsOf d with
    | none => rw [q] at post; exact post.elim
    | some ds =>
      rw [q] at post
      have hk := ks_itr e
      have nf : k ≠ .fr := fun z => by subst z; cases hk
      cases hT : isT d with
      | false =>
        refine .inl ⟨env, O, Rl, Post_itr ?_⟩
        rw [e]
        intro v H' O' R' s hk'
        obtain ⟨p, xs, ev, hs⟩ := held_stays R' hk (Held.of R' hk' nf) q
        have h1 := (hs O' H' (Step.refl _ _) R'.fits).1 hT
        exact ⟨p, ev, ⟨xs, h1⟩, post _ H' O' R' s (iter_list hk fun O2 H2 s2 f2 => ⟨(hs O2 H2 s2 f2).1 hT, (hs O2 H2 s2 f2).2.2⟩)⟩
      | true =>
        refine .inr ⟨env, O, Rl, Post_itr ?_⟩
        rw [e]
        intro v H' O' R' s hk'
        obtain ⟨p, xs, ev, hs⟩ := held_stays R' hk (Held.of R' hk' nf) q
        have h1 := (hs O' H' (Step.refl _ _) R'.fits).2.1 hT
        exact ⟨p, ev, ⟨xs, h1⟩, post _ H' O' R' s (iter_tup hk fun O2 H2 s2 f2 => ⟨(hs O2 H2 s2 f2).2.1 hT, (hs O2 H2 s2 f2).2.2⟩)⟩
  | ex x e1 =>
    rw [e] at post
    refine .inl ⟨env, O, Rl, Post_itr ?_⟩
    rw [e]
    exact post
  | no => rw [e] at post; exact post.elim
/-! range -/
def smallI (j : Int) : Bool := decide (-(2 ^ 62) ≤ j) && decide (j < 2 ^ 62)
theorem smallI_ok {j : Int} (h : smallI j = true) : -(2 ^ 62) ≤ j ∧ j < 2 ^ 62 := by
  simp only [smallI, Bool.and_eq_true, decide_eq_true_eq] at h
  exact h
def rangeL (lo : Int) (n : Nat) : List D := (List.range n).map fun (i : Nat) => D.int (lo + i)
def viRng1 (g : VEnv → RA) : VEnv → RI := fun env => match g env with
  | .ok [(_, .int j)] e => (match smallI j with
    | true => .ok .sh (rangeL 0 j.toNat) e
    | false => .no)
  | .ex x e => .ex x e
  | _ => .no
theorem held1 {K : PySem.W.Frag} {H0 : H0T} {H : Hp} {O0 O : Av} {σ : L2.St} {e : VEnv} {k : Kd} {d : D} {vs : List V} (R : Rel K H0 O0 e σ H O) (h : HeldL K H0 O H [(k, d)] vs) : ∃ v, vs = [v] ∧ Den K noA H d v := by
  obtain ⟨v, r, e, h1, h2⟩ := h
  have z : r = [] := h2
  subst z
  exact ⟨v, e, h1.den R⟩
theorem held2 {K : PySem.W.Frag} {H0 : H0T} {H : Hp} {O0 O : Av} {σ : L2.St} {e : VEnv} {k k' : Kd} {d d' : D} {vs : List V} (R : Rel K H0 O0 e σ H O) (h : HeldL K H0 O H [(k, d), (k', d')] vs) : ∃ v v', vs = [v, v'] ∧ Den K noA H d v ∧ Den K noA H d' v' := by
  obtain ⟨v, r, e, h1, h2⟩ := h
  obtain ⟨v', e2, h3⟩ := held1 R h2
  subst e2
  exact ⟨v, v', e, h1.den R, h3⟩
theorem den_int {K : PySem.W.Frag} {O : Av} {H : Hp} {i : Int} {v : V} (h : Den K O H (.int i) v) : v = .int i := by simpa only [Den] using h
theorem vi_range1 (hg : Gl X "range") (hm : X.mg "range" = none) (ha : VA X W [a] g) (hs : starEach [a] X.env = [(false, eval a X.env)] := by rfl) : VI X W tg (.Call (.Name "range" p) [a] [] pos) (viRng1 g) := fun H0 O0 hx => PI.imp (pi_range1 hg hm (ha H0 O0 hx) hs) fun σ H R h => by
  obtain ⟨env, O, Rl, post⟩ := h
  unfold viRng1 at post
  refine ⟨env, O, Rl, ?_⟩
  split at post
  · rename_i k j e1 e
    rw [e]
    intro vs H' O' R' s hl
    obtain ⟨v, rfl, hv⟩ := held1 R' hl
    cases den_int hv
    cases q : smallI j with
    | false => rw [q] at post; exact post.elim
    | true =>
      rw [q] at post
      obtain ⟨q1, q2⟩ := smallI_ok q
      exact ⟨j, rfl, q1, q2, post _ H' O' R' s iter_range⟩
  · rename_i x e1 e
    rw [e]
    exact post
  · exact post.elim
def viRng2 (g : VEnv → RA) : VEnv → RI := fun env => match g env with
  | .ok [(_, .int i), (_, .int j)] e => (match smallI i && smallI j with
    | true => .ok .sh (rangeL i (j - i).toNat) e
    | false => .no)
  | .ex x e => .ex x e
  | _ => .no
theorem vi_range2 (hg : Gl X "range") (hm : X.mg "range" = none) (ha : VA X W [a, b] g) (hs : starEach [a, b] X.env = [(false, eval a X.env), (false, eval b X.env)] := by rfl) (hs2 : starEach [b] X.env = [(false, eval b X.env)] := by rfl) : VI X W tg (.Call (.Name "range" p) [a, b] [] pos) (viRng2 g) :=
  fun H0 O0 hx => PI.imp (pi_range2 hg hm (ha H0 O0 hx) hs hs2) fun σ H R h => by
  obtain ⟨env, O, Rl, post⟩ := h
  unfold viRng2 at post
  refine ⟨env, O, Rl, ?_⟩
  split at post
  · rename_i k i k' j e1 e
    rw [e]
    intro vs H' O' R' s hl
    obtain ⟨v, v', rfl, hv, hv'⟩ := held2 R' hl
    cases den_int hv
    cases den_int hv'
    cases q : smallI i && smallI j with
    | false => rw [q] at post; exact post.elim
    | true =>
      rw [q] at post
      simp only [Bool.and_eq_true] at q
      obtain ⟨q1, q2⟩ := smallI_ok q.1
      obtain ⟨q3, q4⟩ := smallI_ok q.2
      exact ⟨i, j, rfl, ⟨q1, q2, q3, q4⟩, post _ H' O' R' s iter_range⟩
  · rename_i x e1 e
    rw [e]
    exact post
  · exact post.elim
/-- range(i, j, -1) -/
def viRngD (g : VEnv → RA) : VEnv → RI := fun env => match g env with
  | .ok [(_, .int i), (_, .int j), (_, .int (-1))] e => (match smallI i && smallI j with
    | true => .ok .sh ((List.range (i - j).toNat).map fun (n : Nat) => D.int (i + n * -1)) e
    | false => .no)
  | .ex x e => .ex x e
  | _ => .no
theorem vi_rangeD (hg : Gl X "range") (hm : X.mg "range" = none) (ha : VA X W [a, b, c] g) (hs : starEach [a, b, c] X.env = (false, eval a X.env) :: starEach [b, c] X.env := by rfl) (hpl : (backTo pos (starEach [b, c] X.env)).any (·.1) = false := by rfl) : VI X W tg (.Call (.Name "range" p) [a, b, c] [] pos) (viRngD g) :=
  fun H0 O0 hx => PI.imp (pi_range3 hg hm (ha H0 O0 hx) hs hpl) fun σ H R h => by
  obtain ⟨env, O, Rl, post⟩ := h
  unfold viRngD at post
  refine ⟨env, O, Rl, ?_⟩
  split at post
  · rename_i k i k' j k2 e1 e
    rw [e]
    intro vs H' O' R' s hl
    obtain ⟨v, r, rfl, h1, h2⟩ := hl
    obtain ⟨v2, v3, rfl, hv2, hv3⟩ := held2 R' h2
    cases den_int (h1.den R')
    cases den_int hv2
    cases den_int hv3
    cases q : smallI i && smallI j with
    | false => rw [q] at post; exact post.elim
    | true =>
      rw [q] at post
      simp only [Bool.and_eq_true] at q
      obtain ⟨q1, q2⟩ := smallI_ok q.1
      obtain ⟨q3, q4⟩ := smallI_ok q.2
      exact ⟨i, j, -1, _, rfl, RgC.neg q1 q2 q3 q4, post _ H' O' R' s iter_rangeC⟩
  · rename_i x e1 e
    rw [e]
    exact post
  · exact post.elim
/-! zip, enumerate, reversed -/
def vaIt (f : VEnv → RE) (g : VEnv → RA) : VEnv → RA := fun env => match (f env).itr with
  | .ok k d e => (match g e with
    | .ok l e' => .ok ((k, d) :: l) e'
    | .ex x e' => .ex x e'
    | .no => .no)
  | .ex x e => .ex x e
  | .no => .no
theorem tVA_it {K : PySem.W.Frag} {H0 : H0T} {H : Hp} {O0 : Av} {σ : L2.St} {f : VEnv → RE} {g : VEnv → RA} {Q : List V → Hp → Prop} (h : tVA K H0 O0 W (vaIt f g) σ H Q) : tCons (tV K H0 O0 W f) (tVA K H0 O0 W g) σ H Q := by
  obtain ⟨env, O, R, post⟩ := h
  refine ⟨env, O, R, Post_itr ?_⟩
  unfold vaIt at post
  cases q : (f env).itr with
  | ok k d e =>
    rw [q] at post
    intro v H1 O1 R1 s1 hk
    refine ⟨e, O1, R1, ?_⟩
    have p1 := PostA.from (O1 := O1) (H1 := H1) s1 post
    dsimp only at p1
    have nf : k ≠ .fr := fun z => by subst z; cases ks_itr q
    cases e2 : g e with
    | ok l e' =>
      rw [e2] at p1
      exact fun vs H' O' R' s' hl => p1 (v :: vs) H' O' R' s' ⟨v, vs, rfl, Held.step s' (Held.of R1 hk nf), hl⟩
    | ex x e' => rw [e2] at p1; exact p1
    | no => rw [e2] at p1; exact p1
  | ex x e => rw [q] at post; exact post
  | no => rw [q] at post; exact post.elim
theorem va_it (ha : VE X W a fa) (hg : VA X W es g) (hs : starEach (a :: es) X.env = (false, eval a X.env) :: starEach es X.env := by rfl) : VA X W (a :: es) (vaIt fa g) :=
  fun H0 O0 hx => PA.imp (pa_cons (ha H0 O0 hx) (hg H0 O0 hx) hs) fun σ H Q h => tVA_it h
def ksB : Kd → Bool
  | .sh => true
  | .tnt => true
  | _ => false
theorem ksB_ok {k : Kd} (h : ksB k = true) : Ks k := by cases k <;> first | exact .sh | exact .tnt | cases h
def okI (k : Kd) (ds : List D) : Bool := match k with
  | .tnt => flatL ds
  | _ => true
theorem items_sh {K : PySem.W.Frag} {H0 : H0T} {O : Av} {H : Hp} {k : Kd} {ds : List D} {xs : List V} (hk : Ks k) (f : Fits H0 O H) (h : ItemsOk K H0 O H k ds xs) (ho : okI k ds = true) : DenL K O H ds xs := by
  cases hk with
  | sh => exact h
  | tnt => exact DenL.flat f.2 ds xs ho (DenL.step ⟨fun a o _ q => f.1 a o q, fun _ z => z.elim⟩ ds xs h)
def zipD (xs ys : List D) : List D := List.zipWith (fun a b => .tup [a, b]) xs ys
def viZip (g : VEnv → RA) : VEnv → RI := fun env => match g env with
  | .ok [(k1, d1), (k2, d2)] e => (match itemsOf d1, itemsOf d2 with
    | some xs, some ys => (match (ksB k1 && ksB k2) && ((okI k1 xs && okI k2 ys) && (isT d1 == isT d2)) with
      | true => .ok .sh (zipD xs ys) e
      | false => .no)
    | _, _ => .no)
  | .ex x e => .ex x e
  | _ => .no
theorem zip_get {xs ys : List D} {i : Nat} {d : D} (h : (zipD xs ys)[i]? = some d) : ∃ x y, xs[i]? = some x ∧ ys[i]? = some y ∧ d = .tup [x, y] := by
  unfold zipD at h
  rw [List.getElem?_zipWith] at h
  split at h
  · rename_i x y h1 h2
    cases h
    exact ⟨x, y, h1, h2, rfl⟩
  · cases h
theorem zip_len {xs ys : List D} {i : Nat} (h : (zipD xs ys).length ≤ i) : xs.length ≤ i ∨ ys.length ≤ i := by
  unfold zipD at h
  rw [List.length_zipWith] at h
  omega
theorem vi_zip {elts : List Expr} {kk : Nat} {tpos : Pos} (hg : Gl X "zip") (hm : X.mg "zip" = none) (ha : VA X W [a, b] g) (hs : starEach [a, b] X.env = (false, eval a X.env) :: starEach [b] X.env := by rfl) (hpl : (backTo pos (starEach [b] X.env)).any (·.1) = false := by rfl) :
    VI X W (.Tuple elts kk tpos) (.Call (.Name "zip" p) [a, b] [] pos) (viZip g) := fun H0 O0 hx => PI.imp (RZ.pi_zipA hg hm (ha H0 O0 hx) hs hpl) fun σ H R h => by
  obtain ⟨env, O, Rl, post⟩ := h
  unfold viZip at post
  refine ⟨env, O, Rl, ?_⟩
  split at post
  · rename_i k1 d1 k2 d2 e1 e
    rw [e]
    intro vs H' O' R' s hl
    split at post
    · rename_i xs ys hi1 hi2
      cases q : (ksB k1 && ksB k2) && ((okI k1 xs && okI k2 ys) && (isT d1 == isT d2)) with
      | false => rw [q] at post; exact post.elim
      | true =>
        rw [q] at post
        simp only [Bool.and_eq_true, beq_iff_eq] at q
        obtain ⟨⟨q1, q2⟩, ⟨q3, q4⟩, q5⟩ := q
        obtain ⟨v, r, rfl, h1, v2, r2, e2, h2, e3⟩ := hl
        have e3' : r2 = [] := e3
        subst e3'
        subst e2
        obtain ⟨pa, us, rfl, sa⟩ := held_stays R' (ksB_ok q1) h1 hi1
        obtain ⟨pb, ws, rfl, sb⟩ := held_stays R' (ksB_ok q2) h2 hi2
        refine ⟨pa, pb, us, ws, rfl, ?_⟩
        cases hT : isT d1 with
        | false =>
          rw [hT] at q5
          have a0 := (sa O' H' (Step.refl _ _) R'.fits).1 hT
          have b0 := (sb O' H' (Step.refl _ _) R'.fits).1 q5.symm
          refine .inl ⟨a0, b0, post _ H' O' R' s fun O2 H2 s2 f2 => ?_⟩
          obtain ⟨a1, _, a2⟩ := sa O2 H2 s2 f2
          obtain ⟨b1, _, b2⟩ := sb O2 H2 s2 f2
          have a3 := items_sh (ksB_ok q1) f2 a2 q3
          have b3 := items_sh (ksB_ok q2) f2 b2 q4
          refine ⟨fun i hi => ⟨us, ws, a1 hT, b1 q5.symm, by rw [← a3.length, ← b3.length]; exact zip_len hi⟩, fun i d hd => ?_⟩
          obtain ⟨x, y, hx1, hy1, rfl⟩ := zip_get hd
          obtain ⟨xv, ex, dx⟩ := a3.get' hx1
          obtain ⟨yv, ey, dy⟩ := b3.get' hy1
          refine ⟨⟨us, ws, xv, yv, a1 hT, b1 q5.symm, ex, ey⟩, fun z H3 hz => ?_⟩
          obtain ⟨T, x', y', rfl, hT3, rfl, hx3, hy3⟩ := hz
          have z1 := hx3 us (a1 hT)
          have z2 := hy3 ws (b1 q5.symm)
          rw [ex] at z1
          rw [ey] at z2
          cases z1
          cases z2
          exact pair_new f2 hT3 dx dy
        | true =>
          rw [hT] at q5
          have a0 := (sa O' H' (Step.refl _ _) R'.fits).2.1 hT
          have b0 := (sb O' H' (Step.refl _ _) R'.fits).2.1 q5.symm
          refine .inr ⟨a0, b0, post _ H' O' R' s fun O2 H2 s2 f2 => ?_⟩
          obtain ⟨_, a1, a2⟩ := sa O2 H2 s2 f2
          obtain ⟨_, b1, b2⟩ := sb O2 H2 s2 f2
          have a3 := items_sh (ksB_ok q1) f2 a2 q3
          have b3 := items_sh (ksB_ok q2) f2 b2 q4
          refine ⟨fun i hi => ⟨us, ws, a1 hT, b1 q5.symm, by rw [← a3.length, ← b3.length]; exact zip_len hi⟩, fun i d hd => ?_⟩
          obtain ⟨x, y, hx1, hy1, rfl⟩ := zip_get hd
          obtain ⟨xv, ex, dx⟩ := a3.get' hx1
          obtain ⟨yv, ey, dy⟩ := b3.get' hy1
          refine ⟨⟨us, ws, xv, yv, a1 hT, b1 q5.symm, ex, ey⟩, fun z H3 hz => ?_⟩
          obtain ⟨T, x', y', rfl, hT3, rfl, hx3, hy3⟩ := hz
          have z1 := hx3 us (a1 hT)
          have z2 := hy3 ws (b1 q5.symm)
          rw [ex] at z1
          rw [ey] at z2
          cases z1
          cases z2
          exact pair_new f2 hT3 dx dy
    · exact post.elim
  · rename_i x e1 e
    rw [e]
    exact post
  · exact post.elim
end

/-! ### targets -/
def tgMd : Kd → D → Md × D
  | .tnt, d => if flat d then (.sh, d) else (.tnt, d)
  | _, d => (.sh, d)
section
variable {K : PySem.W.Frag} {H0 : H0T} {H H' H1 : Hp} {O0 O O' O1 : Av} {W : WX} {env e : VEnv} {σ : L2.St} {Q : VK}
theorem tgMd_ok {k : Kd} {d : D} {v : V} (R : Rel K H0 O0 e σ H O) (h : ItemOk K H0 O H k d v) : SlotOk K H0 O H v (tgMd k d) ∧ (tgMd k d).1 ≠ .own := by
  cases k with
  | tnt =>
    have e0 : tgMd .tnt d = if flat d then (.sh, d) else (.tnt, d) := rfl
    rw [e0]
    by_cases hf : flat d = true
    · rw [if_pos hf]
      exact ⟨Den.flat R.mt d v hf (R.tnt h), fun z => by cases z⟩
    · rw [if_neg hf]
      exact ⟨h, fun z => by cases z⟩
  | sh => exact ⟨h, fun z => by cases z⟩
  | fr => exact ⟨h, fun z => by cases z⟩
  | own i => exact ⟨h, fun z => by cases z⟩
theorem wipe_in {i : Nat} : ∀ {vs : List Nat} {σ : L2.St}, i ∈ vs → (wipe σ vs)[i]? = if i < σ.length then some none else none
  | v :: vs, σ, h => by
    unfold wipe
    by_cases e : v = i
    · subst e
      by_cases hl : v < σ.length
      · rw [List.getElem?_set_self (by rw [wipe_length]; exact hl), if_pos hl]
      · rw [if_neg hl, List.getElem?_eq_none (by rw [List.length_set, wipe_length]; omega)]
    · rw [List.getElem?_set_ne e]
      exact wipe_in ((List.mem_cons.mp h).resolve_left fun z => e z.symm)
theorem wipe_congr {σ σ' : L2.St} {vs : List Nat} (hl : σ'.length = σ.length) (h : ∀ i, i ∉ vs → σ'[i]? = σ[i]?) : wipe σ' vs = wipe σ vs := by
  refine List.ext_getElem? fun i => ?_
  by_cases hi : i ∈ vs
  · rw [wipe_in hi, wipe_in hi, hl]
  · rw [wipe_out hi, wipe_out hi, h i hi]
theorem wipe_wipe {σ : L2.St} {vs : List Nat} : wipe (wipe σ vs) vs = wipe σ vs := wipe_congr (wipe_length σ vs) fun i hi => wipe_out hi
/-- σ' is σ but for the slots is -/
def SameBut (is : List Nat) (σ σ' : L2.St) : Prop := σ'.length = σ.length ∧ ∀ i, i ∉ is → σ'[i]? = σ[i]?
theorem SameBut.refl {is : List Nat} {σ : L2.St} : SameBut is σ σ := ⟨rfl, fun _ _ => rfl⟩
theorem SameBut.trans {is js : List Nat} {σ σ1 σ2 : L2.St} (h : SameBut is σ σ1) (h' : SameBut js σ1 σ2) : SameBut (is ++ js) σ σ2 :=
  ⟨h'.1.trans h.1, fun i hi => by
    simp only [List.mem_append, not_or] at hi
    rw [h'.2 i hi.2, h.2 i hi.1]⟩
def GOk (K : PySem.W.Frag) (is : List Nat) (γ : Kd → D → VEnv → Option VEnv) (g : TG) : Prop := ∀ (H0 : H0T) (O0 : Av) (k : Kd) (d : D) (e e' : VEnv) (v : V) (σ : L2.St) (H : Hp) (O : Av) (Q : L2.St → Hp → Prop), γ k d e = some e' → Rel K H0 O0 e σ H O → ItemOk K H0 O H k d v →
    (∀ σ', Rel K H0 O0 e' σ' H O → SameBut is σ σ' → Q σ' H) → g v σ H Q
def GsOk (K : PySem.W.Frag) (is : List Nat) (γ : Kd → List D → VEnv → Option VEnv) (g : TGs) : Prop := ∀ (H0 : H0T) (O0 : Av) (k : Kd) (ds : List D) (e e' : VEnv) (vs : List V) (σ : L2.St) (H : Hp) (O : Av) (Q : L2.St → Hp → Prop), Ks k → γ k ds e = some e' → Rel K H0 O0 e σ H O → ItemsOk K H0 O H k ds vs →
    (∀ σ', Rel K H0 O0 e' σ' H O → SameBut is σ σ' → Q σ' H) → g vs σ H Q
def γName (i : Nat) (k : Kd) (d : D) (e : VEnv) : Option VEnv := some (e.set i (some (tgMd k d)))
theorem gok_name {i : Nat} : GOk K [i] (γName i) (gName i) := fun H0 O0 k d e e' v σ H O Q hg R hk q => by
  cases hg
  obtain ⟨h1, h2⟩ := tgMd_ok R hk
  exact q _ (R.set h1 fun z => absurd z h2) ⟨by simp, fun j hj => List.getElem?_set_ne (fun z => hj (by simp [z]))⟩
def γNil (k : Kd) (ds : List D) (e : VEnv) : Option VEnv := match ds with
  | [] => some e
  | _ => none
def γCons (γ : Kd → D → VEnv → Option VEnv) (γs : Kd → List D → VEnv → Option VEnv) (k : Kd) (ds : List D) (e : VEnv) : Option VEnv := match ds with
  | d :: ds => (match γ k d e with
    | some e' => γs k ds e'
    | none => none)
  | [] => none
theorem gsok_nil : GsOk K [] γNil gNil := fun H0 O0 k ds e e' vs σ H O Q hk hg R hi q => by
  cases ds with
  | nil =>
    cases hg
    refine ⟨?_, q σ R SameBut.refl⟩
    cases hk with
    | sh => exact DenL.nil_eq (K := K) (O := O) (H := H) hi
    | tnt => exact DenL.nil_eq (K := K) (O := noA) (H := H0) hi
  | cons d ds => cases hg
theorem items_cons {K : PySem.W.Frag} {H0 : H0T} {O : Av} {H : Hp} {k : Kd} {d : D} {ds : List D} {vs : List V} (hk : Ks k) (h : ItemsOk K H0 O H k (d :: ds) vs) : ∃ v r, vs = v :: r ∧ ItemOk K H0 O H k d v ∧ ItemsOk K H0 O H k ds r := by
  cases hk with
  | sh => exact DenL.uncons h
  | tnt => exact DenL.uncons h
theorem gsok_cons {is js : List Nat} {γ : Kd → D → VEnv → Option VEnv} {γs : Kd → List D → VEnv → Option VEnv} {g : TG} {gs : TGs} (ho : GOk K is γ g) (hos : GsOk K js γs gs) : GsOk K (is ++ js) (γCons γ γs) (gCons g gs) := fun H0 O0 k ds e e' vs σ H O Q hk hγ R hi q => by
  cases ds with
  | nil => cases hγ
  | cons d ds =>
    unfold γCons at hγ
    dsimp only at hγ
    obtain ⟨v, r, rfl, h1, h2⟩ := items_cons hk hi
    cases e1 : γ k d e with
    | none => rw [e1] at hγ; cases hγ
    | some e2 =>
      rw [e1] at hγ
      exact ⟨v, r, rfl, ho H0 O0 k d e e2 v σ H O _ e1 R h1 fun σ' R' s' => hos H0 O0 k ds e2 e' r σ' H O Q hk hγ R' h2 fun σ2 R2 s2 => q σ2 R2 (s'.trans s2)⟩
/-- (a, b, ..) = a tuple -/
def γTup (n : Nat) (γs : Kd → List D → VEnv → Option VEnv) (k : Kd) (d : D) (e : VEnv) : Option VEnv := match d with
  | .tup ds => if ds.length = n then γs (match k with | .tnt => .tnt | _ => .sh) ds e else none
  | _ => none
theorem gok_tup {is : List Nat} {n : Nat} {γs : Kd → List D → VEnv → Option VEnv} {g : TGs} (ho : GsOk K is γs g) : GOk K is (γTup n γs) (gTup K n g) := fun H0 O0 k d e e' v σ H O Q hγ R hi q => by
  unfold γTup at hγ
  split at hγ
  · rename_i ds
    split at hγ
    · rename_i hl
      have main : ∀ (hd : Den K O H (.tup ds) v) (hγ : γs .sh ds e = some e'), gTup K n g v σ H Q := fun hd hγ => by
        simp only [Den] at hd
        obtain ⟨p', xs, rfl, h1, h2⟩ := hd
        refine ⟨p', xs, rfl, sqT_of (seq_tup h1), by rw [← h2.length]; exact hl, ?_⟩
        exact ho H0 O0 .sh ds e e' xs σ H O Q .sh hγ R h2 q
      cases k with
      | tnt =>
        have hd : Den K noA H0 (.tup ds) v := hi
        simp only [Den] at hd
        obtain ⟨p', xs, rfl, h1, h2⟩ := hd
        refine ⟨p', xs, rfl, sqT_of ((seq_tup h1).elim (fun z => .inl (R.ext _ _ z)) .inr), by rw [← h2.length]; exact hl, ?_⟩
        exact ho H0 O0 .tnt ds e e' xs σ H O Q .tnt hγ R h2 q
      | sh => exact main hi hγ
      | fr => exact main hi hγ
      | own j => exact main hi hγ
    · cases hγ
  · cases hγ
end
def VG (X : Cx) (tg : Expr) (is : List Nat) (γ : Kd → D → VEnv → Option VEnv) : Prop := ∃ g, PG X tg g ∧ GOk X.K is γ g
def VGs (X : Cx) (tgs : List Expr) (is : List Nat) (γ : Kd → List D → VEnv → Option VEnv) : Prop := ∃ g, PGs X tgs g ∧ GsOk X.K is γ g
abbrev Cx.cp (X : Cx) (scope : Scope) (s : Shared) (H : Hp) (C : Addr) (cl : List (Str × Addr)) (fp : List Addr) : Cx := X.blk s H scope (compEnvC scope cl C X.env) fp
/-- a comprehension's -/
def VGc (X : Cx) (scope : Scope) (tg : Expr) (is : List Nat) (γ : Kd → D → VEnv → Option VEnv) : Prop := ∃ g, (∀ s H C cl fp, PG (Cx.cp X scope s H C cl fp) tg g) ∧ GOk X.K is γ g
def VGsc (X : Cx) (scope : Scope) (tgs : List Expr) (is : List Nat) (γ : Kd → List D → VEnv → Option VEnv) : Prop := ∃ g, (∀ s H C cl fp, PGs (Cx.cp X scope s H C cl fp) tgs g) ∧ GsOk X.K is γ g
section
variable {X : Cx} {W : WX} {tg a b c : Expr} {es : List Expr} {p pos : Pos} {scope : Scope}
theorem vg_name {i : Nat} {x : Str} (hN : X.N.Nodup) (hi : X.N[i]? = some x) (hx : Loc X.env.scope x) (hf : X.fn x = true ∨ X.env.scope.names.lookup x = some .local := by first | exact .inl rfl | exact .inr rfl | assumption) : VG X (.Name x pos) [i] (γName i) := ⟨_, pg_name hN hi hx hf, gok_name⟩
theorem vgs_nil : VGs X [] [] γNil := ⟨_, pgs_nil, gsok_nil⟩
theorem vgs_cons {is js : List Nat} {γ : Kd → D → VEnv → Option VEnv} {γs : Kd → List D → VEnv → Option VEnv} (h : VG X a is γ) (h' : VGs X es js γs) (hs : (assignEach (a :: es) X.env).map (·.2) = assign a X.env :: (assignEach es X.env).map (·.2) := by rfl) : VGs X (a :: es) (is ++ js) (γCons γ γs) :=
  let ⟨_, h1, h2⟩ := h
  let ⟨_, h3, h4⟩ := h'
  ⟨_, pgs_cons h1 h3 hs, gsok_cons h2 h4⟩
theorem vg_tup {is : List Nat} {k n : Nat} {γs : Kd → List D → VEnv → Option VEnv} (hc : X.calm = true) (h : VGs X es is γs) (hn : (assignEach es X.env).length = n := by rfl) (hst : (assignEach es X.env).findIdx? (·.1) = none := by rfl) : VG X (.Tuple es k pos) is (γTup n γs) :=
  let ⟨_, h1, h2⟩ := h
  ⟨_, pg_tup hc h1 hn hst, gok_tup h2⟩
theorem vgc_name {i : Nat} {x : Str} (h : ∀ s H C cl fp, PG (Cx.cp X scope s H C cl fp) (.Name x pos) (gName i)) : VGc X scope (.Name x pos) [i] (γName i) := ⟨_, h, gok_name⟩
theorem vgsc_nil : VGsc X scope [] [] γNil := ⟨_, fun _ _ _ _ _ => pgs_nil, gsok_nil⟩
theorem vgsc_cons {is js : List Nat} {γ : Kd → D → VEnv → Option VEnv} {γs : Kd → List D → VEnv → Option VEnv} (h : VGc X scope a is γ) (h' : VGsc X scope es js γs)
    (hs : ∀ s H C cl fp, (assignEach (a :: es) (Cx.cp X scope s H C cl fp).env).map (·.2) = assign a (Cx.cp X scope s H C cl fp).env :: (assignEach es (Cx.cp X scope s H C cl fp).env).map (·.2) := by intro _ _ _ _ _; rfl) : VGsc X scope (a :: es) (is ++ js) (γCons γ γs) :=
  let ⟨_, h1, h2⟩ := h
  let ⟨_, h3, h4⟩ := h'
  ⟨_, fun s H C cl fp => pgs_cons (h1 s H C cl fp) (h3 s H C cl fp) (hs s H C cl fp), gsok_cons h2 h4⟩
theorem vgc_tup {is : List Nat} {k n : Nat} {γs : Kd → List D → VEnv → Option VEnv} (hc : X.calm = true) (h : VGsc X scope es is γs) (hn : ∀ s H C cl fp, (assignEach es (Cx.cp X scope s H C cl fp).env).length = n := by intro _ _ _ _ _; rfl) (hst : ∀ s H C cl fp, (assignEach es (Cx.cp X scope s H C cl fp).env).findIdx? (·.1) = none := by intro _ _ _ _ _; rfl) : VGc X scope (.Tuple es k pos) is (γTup n γs) :=
  let ⟨_, h1, h2⟩ := h
  ⟨_, fun s H C cl fp => pg_tup (X := Cx.cp X scope s H C cl fp) hc (h1 s H C cl fp) (hn s H C cl fp) (hst s H C cl fp), gok_tup h2⟩
end
end Vi

set_option Elab.async false
set_option linter.all false
set_option maxRecDepth 100000
namespace Vi
open PySem PySem.Spec PyProof.Rows L2

/-! ### a frame within: comprehensions -/
def frz : Slot → Slot
  | some (.own, d) => some (.tnt, d)
  | s => s
def nestE (e : VEnv) : List Nat → VEnv
  | [] => e.map frz
  | v :: vs => (nestE e vs).set v none
theorem nestE_length (e : VEnv) : ∀ vs : List Nat, (nestE e vs).length = e.length
  | [] => by simp [nestE]
  | v :: vs => by rw [nestE, List.length_set, nestE_length e vs]
theorem nestE_some {e : VEnv} {i : Nat} {s : Md × D} : ∀ {vs : List Nat}, (nestE e vs)[i]? = some (some s) → i ∉ vs ∧ ∃ s0, e[i]? = some (some s0) ∧ frz (some s0) = some s
  | [], h => by
    rw [nestE, List.getElem?_map] at h
    simp only [Option.map_eq_some_iff] at h
    obtain ⟨o, h1, h2⟩ := h
    cases o with
    | none => cases h2
    | some s0 => exact ⟨by simp, s0, h1, h2⟩
  | v :: vs, h => by
    rw [nestE] at h
    by_cases hi : v = i
    · subst hi
      by_cases hv : v < (nestE e vs).length
      · rw [List.getElem?_set_self hv] at h; cases h
      · rw [List.getElem?_eq_none (by simpa using hv)] at h; cases h
    · rw [List.getElem?_set_ne hi] at h
      obtain ⟨h1, h2⟩ := nestE_some h
      exact ⟨by simp only [List.mem_cons, not_or]; exact ⟨fun e => hi e.symm, h1⟩, h2⟩
theorem frz_not {s0 s : Md × D} (h : frz (some s0) = some s) : s.1 ≠ .own := by
  obtain ⟨m, d⟩ := s0
  cases m <;> (cases h; intro z; cases z)
section
variable {K : PySem.W.Frag} {H0 : H0T} {H H' H1 : Hp} {O0 O O' O1 : Av} {W : WX} {env e : VEnv} {σ : L2.St} {Q : VK}
abbrev subH (H0 : H0T) (H : Hp) : H0T := ⟨H, H0.x, H0.o⟩
theorem Rel.nest (R : Rel K H0 O0 e σ H O) (vs : List Nat) : Rel K (subH H0 H) O (nestE e vs) (wipe σ vs) H O := by
  refine ⟨fun a o h => h, fun a h => h, R.live, fun a h => .inl h, R.mt, by rw [nestE_length, wipe_length]; exact R.len, fun i s h => ?_, fun i j d e' a _ h1 _ _ => ?_⟩
  · obtain ⟨hv, s0, h1, h2⟩ := nestE_some h
    obtain ⟨v, e1, hs⟩ := R.slot i s0 h1
    refine ⟨v, by rw [wipe_out hv]; exact e1, ?_⟩
    obtain ⟨m, d⟩ := s0
    cases m with
    | sh => cases h2; exact hs
    | tnt => cases h2; exact R.tnt hs
    | exn => cases h2; exact hs
    | own =>
      cases h2
      obtain ⟨a, ev, _, _, hc⟩ := hs
      subst ev
      exact own_den hc
  · obtain ⟨_, s0, _, q2⟩ := nestE_some h1
    exact absurd rfl (frz_not q2)
theorem Rel.writeX (R : Rel K H0 O0 e σ H O) {p : Addr} {o : HO} (hO : O p) (h0 : H0 p = none) (hm : Mt (some o)) (hn : ∀ (i : Nat) (z : D), e[i]? = some (some (.own, z)) → σ[i]? ≠ some (some (.ref p))) : Rel K H0 O0 e σ (upd H p o) O ∧ Step O H O (upd H p o) := by
  have st : Step O H O (upd H p o) := ⟨fun b u n q => by rw [upd_ne (fun z => n (by rw [z]; exact hO))]; exact q, fun _ z => .inl z⟩
  refine ⟨⟨fun b u q => ?_, R.sub, R.live0, R.new, fun b q => ?_, R.len, fun j t e' => ?_, R.dis⟩, st⟩
  · rw [upd_ne (fun z => by rw [z, h0] at q; cases q)]
    exact R.ext b u q
  · by_cases hb : b = p
    · subst hb; rw [upd_same]; exact hm
    · rw [upd_ne hb]; exact R.mt b q
  · obtain ⟨v, e1, q⟩ := R.slot j t e'
    refine ⟨v, e1, ?_⟩
    obtain ⟨m, x⟩ := t
    cases m with
    | sh => exact Den.step st x v q
    | tnt => exact q
    | exn => exact q
    | own =>
      obtain ⟨b, e2, h1, h2, h3⟩ := q
      refine ⟨b, e2, h1, h2, OwnC.step st (fun u q => ?_) h3⟩
      subst e2
      rw [upd_ne fun z => by subst z; exact hn j x e' e1]
      exact q
theorem OwnC.lst {ds : List D} {a : Addr} (h : OwnC K O H a (.lst ds)) : ∃ xs, H a = some (.lst xs) ∧ DenL K O H ds xs := h
/-- the items of a comprehension -/
def lcL (γ : Kd → D → VEnv → Option VEnv) (ft : VEnv → RT) (fe : VEnv → RE) (k : Kd) (env : VEnv) : List D → Option (List D)
  | [] => some []
  | d :: ds => (match γ k d env with
    | some e1 => (match ft e1 with
      | .ok true e2 => (match (fe e2).shr with
        | .ok _ y _ => (lcL γ ft fe k env ds).map (y :: ·)
        | _ => none)
      | .ok false _ => lcL γ ft fe k env ds
      | _ => none)
    | none => none)
def vLc (fi : VEnv → RI) (γ : Kd → D → VEnv → Option VEnv) (ft : VEnv → RT) (fe : VEnv → RE) (vs : List Nat) : VEnv → RE := fun env => match fi env with
  | .ok k ds e => (match decide (ds.length ≤ lineN) with
    | true => (match lcL γ ft fe k (nestE e vs) ds with
      | some out => .ok .fr (.lst out) e
      | none => .no)
    | false => .no)
  | .ex x e => .ex x e
  | .no => .no
abbrev W0 : WX := fun _ _ _ _ => False
theorem item_nest {k : Kd} {d : D} {v : V} (R : Rel K H0 O0 e σ H O) (h : ItemOk K H0 O H k d v) : ItemOk K (subH H0 H) O H k d v := by
  cases k with
  | tnt => exact R.tnt h
  | _ => exact h
theorem lc_len {γ : Kd → D → VEnv → Option VEnv} {ft : VEnv → RT} {fe : VEnv → RE} {k : Kd} {env : VEnv} : ∀ {ds out : List D}, lcL γ ft fe k env ds = some out → out.length ≤ ds.length
  | [], out, h => by cases h; simp
  | d :: ds, out, h => by
    unfold lcL at h
    split at h
    · split at h
      · split at h
        · simp only [Option.map_eq_some_iff] at h
          obtain ⟨o, h1, rfl⟩ := h
          have := lc_len h1
          simp only [List.length_cons]
          omega
        · cases h
      · have := lc_len h
        simp only [List.length_cons]
        omega
      · cases h
    · cases h
end
section
variable {X : Cx} {W : WX} {tg elt iter a b c : Expr} {ifs es : List Expr} {p pos : Pos} {fi : VEnv → RI} {γ : Kd → D → VEnv → Option VEnv} {ft : VEnv → RT} {fe : VEnv → RE} {scope : Scope} {own : List (Str × Nat)} {is : List Nat}
def VTs (X : Cx) (W : WX) (ifs : List Expr) (f : VEnv → RT) : Prop := ∀ (H0 : H0T) (O0 : Av), HX X H0 → PTs X ifs (tVT X.K H0 O0 W f)
theorem PTs.imp {X : Cx} {es : List Expr} {t t' : TT} (h : PTs X es t) (i : ∀ σ H Q, t' σ H Q → t σ H Q) : PTs X es t' := ⟨fun pins s σ H Q I q => h.run pins s σ H Q I (i σ H Q q)⟩
def tYesV : VEnv → RT := fun e => .ok true e
theorem vts_nil : VTs X W [] tYesV := fun H0 O0 hx => PTs.imp pts_nil fun σ H Q ⟨env, O, R, post⟩ => PostT_now post R
theorem vts_one {f : VEnv → RT} (h : VT X W a f) : VTs X W [a] f := fun H0 O0 hx => pts_one (h H0 O0 hx)
theorem lc_parts (hsub : ∀ i ∈ is, i ∈ own.map (·.2))
    (hg : VGc X scope tg is γ)
    (ht : ∀ s H C cl fp, VTs (Cx.cp X scope s H C cl fp) W0 ifs ft) (he : ∀ s H C cl fp, VE (Cx.cp X scope s H C cl fp) W0 elt fe) (W : WX) (hi : VI X W tg iter fi) :
    ∀ (H0 : H0T) (O0 : Av), HX X H0 → ∃ wi g tt te, PI X tg iter wi ∧ (∀ s H C cl fp, PG (Cx.cp X scope s H C cl fp) tg g) ∧ (∀ s H C cl fp, PTs (Cx.cp X scope s H C cl fp) ifs tt) ∧ (∀ s H C cl fp, PE (Cx.cp X scope s H C cl fp) elt te) ∧
      ∀ σ H Q, tV X.K H0 O0 W (vLc fi γ ft fe (own.map (·.2))) σ H Q → tLc wi g tt te (own.map (·.2)) σ H Q := by
  intro H0 O0 hx
  obtain ⟨g, hg1, hg2⟩ := hg
  -- within a turn the frame's heap is any heap: all of them at once
  refine ⟨tVI X.K H0 O0 W fi, g, fun σ H Q => ∃ (H2 : Hp) (O2 : Av), tVT X.K (subH H0 H2) O2 W0 ft σ H Q, fun σ H Q => ∃ (H2 : Hp) (O2 : Av), tV X.K (subH H0 H2) O2 W0 fe σ H Q, hi H0 O0 hx, hg1, fun s H C cl fp => ⟨fun pins s' σ H' Q I ⟨H2, O2, h⟩ => ?_⟩, fun s H C cl fp => ⟨fun pins s' σ H' Q I ⟨H2, O2, h⟩ => ?_⟩, fun σ H Q h => ?_⟩
  · exact (ht s H C cl fp (subH H0 H2) O2 (fun _ _ _ _ _ q => nomatch q)).run pins s' σ H' Q I h
  · exact (he s H C cl fp (subH H0 H2) O2 (fun _ _ _ _ _ q => nomatch q)).run pins s' σ H' Q I h
  · obtain ⟨env, O, R, post⟩ := h
    refine ⟨env, O, R, ?_⟩
    unfold vLc at post
    cases e1 : fi env with
    | ok k ds e =>
      rw [e1] at post
      dsimp only at post
      intro J H1 O1 R1 s1 it D hD
      cases ez : decide (ds.length ≤ lineN) with
      | false => rw [ez] at post; exact post.elim
      | true =>
        rw [ez] at post
        dsimp only at post
        have hz : ds.length ≤ sizeLine := len_ok ez
        cases eo : lcL γ ft fe k (nestE e (own.map (·.2))) ds with
        | none => rw [eo] at post; exact post.elim
        | some out =>
          rw [eo] at post
          -- D under O
          have kp : ∀ a o, H1 a = some o → upd H1 D (.lst []) a = some o := fun a o q => by rw [upd_ne (ne_of_none q hD)]; exact q
          have R2 := R1.grow (H' := upd H1 D (.lst [])) hD kp (by rw [upd_same]; exact True.intro)
          have s2 : StepE O1 H1 (fun a => O1 a ∨ a = D) (upd H1 D (.lst [])) := ⟨kp, fun a z => z.elim .inl fun e => .inr (by rw [e]; exact hD)⟩
          have h0D : H0 D = none := R1.h0 hD
          have hn : ∀ (i : Nat) (z : Vi.D), e[i]? = some (some (.own, z)) → σ[i]? ≠ some (some (.ref D)) := fun i z q1 q2 => by
            obtain ⟨v', e3, a, ev, hO, _⟩ := R1.slot i _ q1
            rw [q2] at e3
            cases e3
            cases ev
            exact R1.noO hD hO
          refine ⟨fun i m H => m = ds.length - i ∧ i ≤ ds.length ∧ ∃ (acc : List V) (da rest : List Vi.D), Rel X.K H0 O0 e σ H (fun a => O1 a ∨ a = D) ∧ StepE O1 H1 (fun a => O1 a ∨ a = D) H ∧ IterOk X.K H0 J k ds (fun a => O1 a ∨ a = D) H ∧ H D = some (.lst acc) ∧ DenL X.K (fun a => O1 a ∨ a = D) H da acc ∧
            lcL γ ft fe k (nestE e (own.map (·.2))) (ds.drop i) = some rest ∧ da ++ rest = out ∧ da.length ≤ i, ⟨ds.length, by simp, Nat.zero_le _, [], [], out, R2, s2, it.step s2.st, upd_same, DenL.nil, by simpa using eo, by simp, by simp⟩, ?_⟩
          rintro i m H3 ⟨rfl, hil, acc, da, rest, R3, s3, it3, hDa, hden, hrest, hcat, hlen⟩
          obtain ⟨hstop, hgo⟩ := it3 _ _ (Step.refl _ _) R3.fits
          by_cases hlt : i < ds.length
          · have hd : ds[i]? = some ds[i] := List.getElem?_eq_getElem hlt
            obtain ⟨hgo1, hyld⟩ := hgo i ds[i] hd
            rw [List.drop_eq_getElem_cons hlt] at hrest
            unfold lcL at hrest
            -- what a turn is to reach
            refine .inr ⟨hgo1, fun H => ∃ (acc : List V) (da rest : List Vi.D), Rel X.K H0 O0 e σ H (fun a => O1 a ∨ a = D) ∧ StepE O1 H1 (fun a => O1 a ∨ a = D) H ∧ IterOk X.K H0 J k ds (fun a => O1 a ∨ a = D) H ∧ H D = some (.lst acc) ∧ DenL X.K (fun a => O1 a ∨ a = D) H da acc ∧
              lcL γ ft fe k (nestE e (own.map (·.2))) (ds.drop (i + 1)) = some rest ∧ da ++ rest = out ∧ da.length ≤ i + 1, fun H' z => ⟨ds.length - (i + 1), by omega, rfl, hlt, z⟩, fun x H4 hy => ?_⟩
            obtain ⟨kp4, hitem⟩ := hyld x H4 hy
            have st4 : StepE (fun a => O1 a ∨ a = D) H3 (fun a => O1 a ∨ a = D) H4 := ⟨kp4, fun a z => .inl z⟩
            have R4 := R3.kept kp4
            have N4 := R4.nest (own.map (·.2))
            cases eg : γ k ds[i] (nestE e (own.map (·.2))) with
            | none => rw [eg] at hrest; cases hrest
            | some e5 =>
              rw [eg] at hrest
              dsimp only at hrest
              refine hg2 (subH H0 H4) _ k ds[i] _ e5 x _ H4 _ _ eg N4 (item_nest R4 hitem) fun σ2 N5 sb => ?_
              refine ⟨by rw [wipe_congr sb.1 (fun j hj => sb.2 j fun z => hj (hsub j z)), wipe_wipe], H4, _, e5, _, N5, ?_⟩
              -- behind the test, the element: back in the frame outside
              have back : ∀ {H5 : Hp} {O5 : Av}, StepE (fun a => O1 a ∨ a = D) H4 O5 H5 → Rel X.K H0 O0 e σ H5 (fun a => O1 a ∨ a = D) ∧ StepE O1 H1 (fun a => O1 a ∨ a = D) H5 ∧ IterOk X.K H0 J k ds (fun a => O1 a ∨ a = D) H5 ∧ H5 D = some (.lst acc) ∧ DenL X.K (fun a => O1 a ∨ a = D) H5 da acc := fun {H5 O5} s5 => by
                have s6 : StepE (fun a => O1 a ∨ a = D) H3 (fun a => O1 a ∨ a = D) H5 := ⟨fun a o z => s5.keep a o (kp4 a o z), fun a z => .inl z⟩
                exact ⟨R3.kept s6.keep, s3.trans s6, it3.step s6.st, s6.keep _ _ hDa, DenL.step s6.st _ _ hden⟩
              cases et : ft e5 with
              | no => rw [et] at hrest; cases hrest
              | ex x5 e6 => rw [et] at hrest; cases hrest
              | ok bt e6 =>
                rw [et] at hrest
                intro H5 O5 N6 s5
                cases bt with
                | false =>
                  dsimp only at hrest
                  rw [if_neg Bool.false_ne_true]
                  obtain ⟨b1, b2, b3, b4, b5⟩ := back s5
                  exact ⟨acc, da, rest, b1, b2, b3, b4, b5, hrest, hcat, by omega⟩
                | true =>
                  dsimp only at hrest
                  rw [if_pos rfl]
                  refine ⟨H4, _, e6, O5, N6, Post_shr ?_⟩
                  cases ee : (fe e6).shr with
                  | no => rw [ee] at hrest; cases hrest
                  | ex x5 e7 => rw [ee] at hrest; cases hrest
                  | ok k7 y e7 =>
                    rw [ee] at hrest
                    simp only [Option.map_eq_some_iff] at hrest
                    obtain ⟨rest', hr1, hr2⟩ := hrest
                    have ek := nofr_shr ee
                    subst ek
                    intro v H7 O7 N7 s7 hv
                    obtain ⟨b1, b2, b3, b4, b5⟩ := back (s5.trans s7)
                    have hacc : acc.length < sizeLine := by
                      have := b5.length
                      omega
                    obtain ⟨w1, w2⟩ := b1.writeX (p := D) (o := .lst (acc ++ [v])) (.inr rfl) h0D True.intro hn
                    have hv' : Den X.K (fun a => O1 a ∨ a = D) H7 y v := Den.step ⟨fun a o _ z => z, fun a z => .inl (N7.sub a z)⟩ y v hv
                    refine ⟨acc, b4, hacc, acc ++ [v], da ++ [y], rest', w1, ⟨fun a o z => ?_, s2.grow⟩, b3.step w2, upd_same, (DenL.step w2 _ _ b5).append (DenL.cons (Den.step w2 y v hv') DenL.nil), hr1, by rw [← hcat, ← hr2, List.append_assoc]; rfl, by simp; omega⟩
                    rw [upd_ne (ne_of_none z hD)]
                    exact b2.keep a o z
          · have ei : i = ds.length := by omega
            subst ei
            rw [List.drop_length] at hrest
            cases hrest
            rw [List.append_nil] at hcat
            subst hcat
            exact .inl ⟨hstop _ (Nat.le_refl _), post _ _ _ R3 (s1.trans s3) ⟨D, rfl, .inr rfl, h0D, ⟨acc, hDa, hden⟩, hn⟩⟩
    | ex x e => rw [e1] at post; exact post
    | no => rw [e1] at post; exact post
theorem ve_lc {vs : List Nat} (hc : X.calm = true) (hN : X.N.Nodup) (hi : VI X W tg iter fi) (ok : BlkOk X.N X.env.scope scope own) (hsub : ∀ i ∈ is, i ∈ own.map (·.2)) (hg : VGc X scope tg is γ)
    (ht : ∀ s H C cl fp, VTs (Cx.cp X scope s H C cl fp) W0 ifs ft) (he : ∀ s H C cl fp, VE (Cx.cp X scope s H C cl fp) W0 elt fe) (hv : own.map (·.2) = vs := by rfl) (hs : ∀ x, foldedSetIterable iter X.env x = pure x := by intro _; rfl) :
    VE X W (.ListComp elt [⟨tg, iter, ifs, 0⟩] scope pos) (vLc fi γ ft fe vs) := fun H0 O0 hx => by
  subst hv
  obtain ⟨wi, g, tt, te, h1, h2, h3, h4, h5⟩ := lc_parts (X := X) (own := own) hsub hg ht he W hi H0 O0 hx
  exact PE.imp (pe_lc hc hN h1 ok h2 h3 h4 hs) fun σ H Q h => h5 σ H Q h
end
end Vi

set_option Elab.async false
set_option linter.all false
set_option maxRecDepth 100000
namespace Vi
open PySem PySem.Spec PyProof.Rows L2

/-! ### statements -/
inductive SRes where
  | nx (e : VEnv)
  | bk (e : VEnv)
  | ct (e : VEnv)
  | rt (k : Kd) (d : D) (e : VEnv)
  | ex (x : Xn) (e : VEnv)
  | no
def PostS (K : PySem.W.Frag) (H0 : H0T) (O0 : Av) (W : WX) (D : Ends) (O : Av) (H : Hp) : SRes → Prop
  | .nx e => ∀ σ' H' O', Rel K H0 O0 e σ' H' O' → Step O H O' H' → D.nx σ' H'
  | .bk e => ∀ σ' H' O', Rel K H0 O0 e σ' H' O' → Step O H O' H' → D.bk σ' H'
  | .ct e => ∀ σ' H' O', Rel K H0 O0 e σ' H' O' → Step O H O' H' → D.ct σ' H'
  | .rt k d e => ∀ v σ' H' O', Rel K H0 O0 e σ' H' O' → Step O H O' H' → KOk K H0 O' H' σ' e k d v → D.rt v H'
  | .ex x e => ∀ σ' H' O' c dd, Rel K H0 O0 e σ' H' O' → Step O H O' H' → XOk K O' H' x c dd → W c dd σ' H'
  | .no => False
def tS (K : PySem.W.Frag) (H0 : H0T) (O0 : Av) (W : WX) (f : VEnv → SRes) : TS := fun D σ H => ∃ env O, Rel K H0 O0 env σ H O ∧ PostS K H0 O0 W D O H (f env)
def VS (X : Cx) (W : WX) (st : Stmt) (f : VEnv → SRes) : Prop := ∀ (H0 : H0T) (O0 : Av), HX X H0 → PS X st (tS X.K H0 O0 W f)
def VSs (X : Cx) (W : WX) (sts : List Stmt) (f : VEnv → SRes) : Prop := ∀ (H0 : H0T) (O0 : Av), HX X H0 → PSs X sts (tS X.K H0 O0 W f)
theorem PS.imp {X : Cx} {st : Stmt} {t t' : TS} (h : PS X st t) (i : ∀ D σ H, t' D σ H → t D σ H) : PS X st t' := ⟨fun pins s σ H D I q => h.run pins s σ H D I (i D σ H q)⟩
theorem PSs.imp {X : Cx} {st : List Stmt} {t t' : TS} (h : PSs X st t) (i : ∀ D σ H, t' D σ H → t D σ H) : PSs X st t' := ⟨fun pins s σ H D I q => h.run pins s σ H D I (i D σ H q)⟩
section
variable {K : PySem.W.Frag} {H0 : H0T} {H H' H1 : Hp} {O0 O O' O1 : Av} {W W' : WX} {env e : VEnv} {σ : L2.St} {Q : VK} {D D' : Ends}
theorem PostS.from (st : Step O H O1 H1) {r : SRes} (h : PostS K H0 O0 W D O H r) : PostS K H0 O0 W D O1 H1 r := by
  cases r with
  | nx e => exact fun σ' H' O' R s => h σ' H' O' R (st.trans s)
  | bk e => exact fun σ' H' O' R s => h σ' H' O' R (st.trans s)
  | ct e => exact fun σ' H' O' R s => h σ' H' O' R (st.trans s)
  | rt k d e => exact fun v σ' H' O' R s => h v σ' H' O' R (st.trans s)
  | ex x e => exact fun σ' H' O' c dd R s => h σ' H' O' c dd R (st.trans s)
  | no => exact h
def SRes.bind (r : SRes) (g : VEnv → SRes) : SRes := match r with
  | .nx e => g e
  | r => r
theorem PostS_bind {g : VEnv → SRes} {r : SRes} (h : PostS K H0 O0 W D O H (r.bind g)) : PostS K H0 O0 W { D with nx := tS K H0 O0 W g D } O H r := by
  cases r with
  | nx e => exact fun σ' H' O' R s => ⟨e, O', R, PostS.from s h⟩
  | bk e => exact h
  | ct e => exact h
  | rt k d e => exact h
  | ex x e => exact h
  | no => exact h
/-- an expression, then what is done with its value -/
def RE.toS (r : RE) (g : Kd → Vi.D → VEnv → SRes) : SRes := match r with
  | .ok k d e => g k d e
  | .ex x e => .ex x e
  | .no => .no
theorem Post_toS {g : Kd → Vi.D → VEnv → SRes} {R : V → Hp → Prop} {r : RE} (h : PostS K H0 O0 W D O H (r.toS g))
    (hr : ∀ k d e v H1 O1, Rel K H0 O0 e σ H1 O1 → StepE O H O1 H1 → KOk K H0 O1 H1 σ e k d v → r = .ok k d e → PostS K H0 O0 W D O1 H1 (g k d e) → R v H1) : PostE K H0 O0 W σ H O R r := by
  cases r with
  | ok k d e1 => exact fun v H' O' R' s k' => hr k d e1 v H' O' R' s k' rfl (PostS.from s.st h)
  | ex x e1 => exact fun H' O' c dd R' s hx => h σ H' O' c dd R' s.st hx
  | no => exact h
def RT.toS (r : RT) (g : Bool → VEnv → SRes) : SRes := match r with
  | .ok b e => g b e
  | .ex x e => .ex x e
  | .no => .no
theorem PostT_toS {g : Bool → VEnv → SRes} {R : Bool → Hp → Prop} {r : RT} (h : PostS K H0 O0 W D O H (r.toS g))
    (hr : ∀ b e H1 O1, Rel K H0 O0 e σ H1 O1 → StepE O H O1 H1 → PostS K H0 O0 W D O1 H1 (g b e) → R b H1) : PostT K H0 O0 W σ H O R r := by
  cases r with
  | ok b e1 => exact fun H' O' R' s => hr b e1 H' O' R' s (PostS.from s.st h)
  | ex x e1 => exact fun H' O' c dd R' s hx => h σ H' O' c dd R' s.st hx
  | no => exact h
theorem PostS_nx (h : PostS K H0 O0 W D O H (.nx e)) (R : Rel K H0 O0 e σ H O) : D.nx σ H := h σ H O R (Step.refl _ _)
/-- a value is stored at slot i -/
def setMd (i : Nat) (k : Kd) (d : Vi.D) (e : VEnv) : VEnv := match k with
  | .fr => e.set i (some (.own, d))
  | .sh => e.set i (some (.sh, d))
  | .tnt => e.set i (some (.tnt, d))
  | .own j => (e.set j (some (.sh, d))).set i (some (.sh, d))
theorem set_rel {i : Nat} {k : Kd} {d : Vi.D} {v : V} (R : Rel K H0 O0 e σ H O) (hk : KOk K H0 O H σ e k d v) : ∃ O', Rel K H0 O0 (setMd i k d e) (σ.set i (some v)) H O' ∧ Step O H O' H := by
  cases k with
  | sh => exact ⟨O, R.set (s := (.sh, d)) hk (fun z => by cases z), Step.refl _ _⟩
  | tnt => exact ⟨O, R.set (s := (.tnt, d)) hk (fun z => by cases z), Step.refl _ _⟩
  | fr =>
    obtain ⟨p, rfl, hO, h0, hc, hn⟩ := hk
    exact ⟨O, R.set (s := (.own, d)) ⟨p, rfl, hO, h0, hc⟩ (fun _ j z hj e1 e2 => hn j z e1 e2), Step.refl _ _⟩
  | own j =>
    obtain ⟨O2, R2, s2, hd⟩ := rel_own R (StepE.refl O H) hk
    exact ⟨O2, R2.set (s := (.sh, d)) hd (fun z => by cases z), s2.st⟩
end

section
variable {X : Cx} {W : WX} {st : Stmt} {rest body : List Stmt} {a b c e : Expr} {es : List Expr} {p pos : Pos} {fa fb : VEnv → RE} {f g : VEnv → SRes} {ft : VEnv → RT} {ga : VEnv → RA}
def sNx : VEnv → SRes := fun e => .nx e
def sSeq (f g : VEnv → SRes) : VEnv → SRes := fun e => (f e).bind g
theorem vss_nil : VSs X W [] sNx := fun H0 O0 hx => PSs.imp pss_nil fun D σ H ⟨env, O, R, post⟩ => PostS_nx post R
theorem vss_one (h : VS X W st f) : VSs X W [st] f := fun H0 O0 hx => pss_one (h H0 O0 hx)
theorem vss_cons (h : VS X W st f) (h' : VSs X W rest g) : VSs X W (st :: rest) (sSeq f g) := fun H0 O0 hx => PSs.imp (pss_cons (h H0 O0 hx) (h' H0 O0 hx)) fun D σ H ⟨env, O, R, post⟩ => ⟨env, O, R, PostS_bind post⟩
theorem vs_pass : VS X W (.Pass pos) sNx := fun H0 O0 hx => PS.imp ps_pass fun D σ H ⟨env, O, R, post⟩ => PostS_nx post R
theorem vs_doc {x j p'} : VS X W (.Expr (.Constant (.str x) j pos) p') sNx := fun H0 O0 hx => PS.imp ps_doc fun D σ H ⟨env, O, R, post⟩ => PostS_nx post R
theorem vs_break : VS X W (.Break pos) (fun e => .bk e) := fun H0 O0 hx => PS.imp ps_break fun D σ H ⟨env, O, R, post⟩ => post σ H O R (Step.refl _ _)
theorem vs_continue : VS X W (.Continue pos) (fun e => .ct e) := fun H0 O0 hx => PS.imp ps_continue fun D σ H ⟨env, O, R, post⟩ => post σ H O R (Step.refl _ _)
def sExpr (fa : VEnv → RE) : VEnv → SRes := fun e => (fa e).rel.toS fun _ _ e => .nx e
theorem vs_expr (ha : VE X W e fa) (hs : swapsWith e none pos.line X.env = pure false := by rfl) : VS X W (.Expr e pos) (sExpr fa) := fun H0 O0 hx => PS.imp (ps_expr (ha H0 O0 hx) hs) fun D σ H ⟨env, O, R, post⟩ =>
  ⟨env, O, R, Post_rel (Post_toS post fun k d e v H1 O1 R1 s1 hk _ p => PostS_nx p R1)⟩
def sRet (fa : VEnv → RE) : VEnv → SRes := fun e => (fa e).toS fun k d e => .rt k d e
theorem vs_ret (ha : VE X W e fa) : VS X W (.Return (some e) pos) (sRet fa) := fun H0 O0 hx => PS.imp (ps_ret (ha H0 O0 hx)) fun D σ H ⟨env, O, R, post⟩ =>
  ⟨env, O, R, Post_toS post fun k d e v H1 O1 R1 s1 hk _ p => p v σ H1 O1 R1 (Step.refl _ _) hk⟩
theorem vs_retN : VS X W (.Return none pos) (fun e => .rt .sh .non e) := fun H0 O0 hx => PS.imp ps_retN fun D σ H ⟨env, O, R, post⟩ => post _ σ H O R (Step.refl _ _) (by show Den _ _ _ _ _; simp only [Den])
def sIf (t : VEnv → RT) (f g : VEnv → SRes) : VEnv → SRes := fun e => (t e).toS fun b e => match b with
  | true => f e
  | false => g e
theorem vs_if {as bs : List Stmt} (hc : VT X W c ft) (ha : VSs X W as f) (hb : VSs X W bs g) : VS X W (.If c as bs pos) (sIf ft f g) := fun H0 O0 hx => PS.imp (ps_if (hc H0 O0 hx) (ha H0 O0 hx) (hb H0 O0 hx)) fun D σ H ⟨env, O, R, post⟩ =>
  ⟨env, O, R, PostT_toS post fun b e H1 O1 R1 s1 p => by
    cases b with
    | true => rw [if_pos rfl]; exact ⟨e, O1, R1, p⟩
    | false => rw [if_neg Bool.false_ne_true]; exact ⟨e, O1, R1, p⟩⟩
/-! name = e -/
def sSet (i : Nat) (fa : VEnv → RE) : VEnv → SRes := fun e => (fa e).toS fun k d e => .nx (setMd i k d e)
theorem tV_set {K : PySem.W.Frag} {H0 : H0T} {O0 : Av} {i : Nat} {D : Ends} {σ : L2.St} {H : Hp} (h : tS K H0 O0 W (sSet i fa) D σ H) : tAsg (tV K H0 O0 W fa) (gName i) D σ H := by
  obtain ⟨env, O, R, post⟩ := h
  exact ⟨env, O, R, Post_toS post fun k d e v H1 O1 R1 s1 hk _ p => let ⟨O2, R2, s2⟩ := set_rel (i := i) R1 hk; p _ H1 O2 R2 s2⟩
theorem vs_set {i : Nat} {x : Str} {pos' : Pos} (hN : X.N.Nodup) (hi : X.N[i]? = some x) (hl : Loc X.env.scope x) (ha : VE X W e fa) (hs : swapsWith e (some (.Name x pos')) pos.line X.env = pure false := by rfl) (hf : X.fn x = true ∨ X.env.scope.names.lookup x = some .local := by first | exact .inl rfl | exact .inr rfl | assumption) :
    VS X W (.Assign [.Name x pos'] e pos) (sSet i fa) := fun H0 O0 hx => PS.imp (ps_set hN hi hl (ha H0 O0 hx) hs hf) fun D σ H h => tV_set h
/-- name = [..], on one line -/
theorem vs_setLc {i : Nat} {vs : List Nat} {y : Str} {py spos : Pos} {tg elt iter : Expr} {ifs : List Expr} {fi : VEnv → RI} {γ : Kd → D → VEnv → Option VEnv} {fe : VEnv → RE} {scope : Scope} {own : List (Str × Nat)} {is : List Nat} (hc : X.calm = true) (hN : X.N.Nodup) (hy : X.N[i]? = some y) (hyl : X.env.scope.names.lookup y = some .local)
    (hsw : swapsWith (.ListComp elt [⟨tg, iter, ifs, 0⟩] scope pos) (some (.Name y py)) spos.line X.env = pure true) (hi : VI X W tg iter fi) (ok : BlkOk X.N X.env.scope scope own) (hsub : ∀ i ∈ is, i ∈ own.map (·.2)) (hg : VGc X scope tg is γ)
    (ht : ∀ s H C cl fp, VTs (Cx.cp X scope s H C cl fp) W0 ifs ft) (he : ∀ s H C cl fp, VE (Cx.cp X scope s H C cl fp) W0 elt fe) (hv : own.map (·.2) = vs := by rfl) (hs : ∀ x, foldedSetIterable iter X.env x = pure x := by intro _; rfl) :
    VS X W (.Assign [.Name y py] (.ListComp elt [⟨tg, iter, ifs, 0⟩] scope pos) spos) (sSet i (vLc fi γ ft fe vs)) := fun H0 O0 hx => by
  subst hv
  obtain ⟨wi, g, tt, te, h1, h2, h3, h4, h5⟩ := lc_parts (X := X) (own := own) hsub hg ht he W hi H0 O0 hx
  exact PS.imp (ps_setLc hc hN hy hyl hsw h1 ok h2 h3 h4 hs) fun D σ H h => h5 σ H _ (tV_set h)
/-! target = e -/
def sAsg (γ : Kd → D → VEnv → Option VEnv) (fa : VEnv → RE) : VEnv → SRes := fun e => (fa e).itr.toS fun k d e => match γ k d e with
  | some e' => .nx e'
  | none => .no
theorem item_of {K : PySem.W.Frag} {H0 : H0T} {O : Av} {H : Hp} {σ : L2.St} {e : VEnv} {k : Kd} {d : D} {v : V} (hk : Ks k) (h : KOk K H0 O H σ e k d v) : ItemOk K H0 O H k d v := by
  cases hk with
  | sh => exact h
  | tnt => exact h
theorem vs_asg {tg : Expr} {is : List Nat} {γ : Kd → D → VEnv → Option VEnv} (ha : VE X W e fa) (hg : VG X tg is γ) (hs : swapsWithSole [tg] e pos.line X.env = pure false := by rfl) (hw : swappedStores [tg] e X.env = pure none := by rfl)
    (h1 : (assignEach [tg] X.env).map (·.2) = [assign tg X.env] := by rfl) : VS X W (.Assign [tg] e pos) (sAsg γ fa) := fun H0 O0 hx => by
  obtain ⟨g, hg1, hg2⟩ := hg
  refine PS.imp (ps_asg (ha H0 O0 hx) hg1 hs hw h1) fun D σ H ⟨env, O, R, post⟩ => ⟨env, O, R, Post_itr (Post_toS post fun k d e v H1 O1 R1 s1 hk eq p => ?_)⟩
  cases q : γ k d e with
  | none => rw [q] at p; exact p.elim
  | some e' =>
    rw [q] at p
    exact hg2 H0 O0 k d e e' v σ H1 O1 _ q R1 (item_of (ks_itr eq) hk) fun σ' R' _ => p σ' H1 O1 R' (Step.refl _ _)
/-! a, b = x, y -/
def RA.toS (r : RA) (g : List (Kd × D) → VEnv → SRes) : SRes := match r with
  | .ok l e => g l e
  | .ex x e => .ex x e
  | .no => .no
theorem PostA_toS {K : PySem.W.Frag} {H0 : H0T} {H : Hp} {O0 O : Av} {σ : L2.St} {D : Ends} {g : List (Kd × Vi.D) → VEnv → SRes} {R : List V → Hp → Prop} {r : RA} (h : PostS K H0 O0 W D O H (r.toS g))
    (hr : ∀ l e vs H1 O1, Rel K H0 O0 e σ H1 O1 → HeldL K H0 O1 H1 l vs → PostS K H0 O0 W D O1 H1 (g l e) → R vs H1) : PostA K H0 O0 W σ H O R r := by
  cases r with
  | ok l e1 => exact fun vs H' O' R' s hl => hr l e1 vs H' O' R' hl (PostS.from s.st h)
  | ex x e1 => exact fun H' O' c dd R' s hx => h σ H' O' c dd R' s.st hx
  | no => exact h
def slotP (k : Kd) (d : D) : Md × D := match k with
  | .tnt => (.tnt, d)
  | _ => (.sh, d)
theorem held_slot {K : PySem.W.Frag} {H0 : H0T} {O : Av} {H : Hp} {k : Kd} {d : D} {v : V} (hk : Ks k) (h : Held K H0 O H k d v) : SlotOk K H0 O H v (slotP k d) ∧ (slotP k d).1 ≠ .own := by
  cases hk with
  | sh => exact ⟨h, fun z => by cases z⟩
  | tnt => exact ⟨h, fun z => by cases z⟩
abbrev slotOf (k : Kd) (d : D) : Slot := some (slotP k d)
def sPar (i j : Nat) (ga : VEnv → RA) : VEnv → SRes := fun e => (ga e).toS fun l e => match l with
  | [(k1, d1), (k2, d2)] => (match ksB k1 && ksB k2 with
    | true => .nx ((e.set i (slotOf k1 d1)).set j (slotOf k2 d2))
    | false => .no)
  | _ => .no
theorem vs_par {i j : Nat} {x y : Str} {px py pt : Pos} {kt k2 pt2} (hc : X.calm = true) (hN : X.N.Nodup) (hi : X.N[i]? = some x) (hj : X.N[j]? = some y) (hij : i ≠ j) (hx' : X.env.scope.names.lookup x = some .local) (hy : X.env.scope.names.lookup y = some .local) (ha : VA X W [a, b] ga)
    (hw : swappedStores [.Tuple [.Name x px, .Name y py] kt pt] (.Tuple [a, b] k2 pt2) X.env = pure (some [x, y])) (hs : swapsWithSole [.Tuple [.Name x px, .Name y py] kt pt] (.Tuple [a, b] k2 pt2) pos.line X.env = pure false := by rfl) :
    VS X W (.Assign [.Tuple [.Name x px, .Name y py] kt pt] (.Tuple [a, b] k2 pt2) pos) (sPar i j ga) := fun H0 O0 hx => PS.imp (ps_par hc hN hi hj hij hx' hy (ha H0 O0 hx) hw hs) fun D σ H ⟨env, O, R, post⟩ => by
  refine ⟨env, O, R, PostA_toS post fun l e vs H1 O1 R1 hl p => ?_⟩
  split at p
  · rename_i k1 d1 k2 d2
    cases q : ksB k1 && ksB k2 with
    | false => rw [q] at p; exact p.elim
    | true =>
      rw [q] at p
      simp only [Bool.and_eq_true] at q
      obtain ⟨v, r, rfl, h1, w, r2, rfl, h2, h3⟩ := hl
      have h3' : r2 = [] := h3
      subst h3'
      obtain ⟨s1, n1⟩ := held_slot (ksB_ok q.1) h1
      obtain ⟨s2, n2⟩ := held_slot (ksB_ok q.2) h2
      exact ⟨v, w, rfl, p _ H1 O1 ((R1.set s1 fun z => absurd z n1).set s2 fun z => absurd z n2) (Step.refl _ _)⟩
  · exact p.elim
def sPar3 (i j l : Nat) (ga : VEnv → RA) : VEnv → SRes := fun e => (ga e).toS fun z e => match z with
  | [(k1, d1), (k2, d2), (k3, d3)] => (match ksB k1 && (ksB k2 && ksB k3) with
    | true => .nx (((e.set i (slotOf k1 d1)).set j (slotOf k2 d2)).set l (slotOf k3 d3))
    | false => .no)
  | _ => .no
theorem vs_par3 {i j l : Nat} {x y z : Str} {px py pz pt : Pos} {kt k2 pt2} (hc : X.calm = true) (hN : X.N.Nodup) (hi : X.N[i]? = some x) (hj : X.N[j]? = some y) (hl : X.N[l]? = some z) (hij : i ≠ j) (hil : i ≠ l) (hjl : j ≠ l) (hx' : X.env.scope.names.lookup x = some .local) (hy : X.env.scope.names.lookup y = some .local) (hz : X.env.scope.names.lookup z = some .local) (ha : VA X W [a, b, c] ga)
    (hw : swappedStores [.Tuple [.Name x px, .Name y py, .Name z pz] kt pt] (.Tuple [a, b, c] k2 pt2) X.env = pure (some [x, y, z])) (hs : swapsWithSole [.Tuple [.Name x px, .Name y py, .Name z pz] kt pt] (.Tuple [a, b, c] k2 pt2) pos.line X.env = pure false := by rfl) :
    VS X W (.Assign [.Tuple [.Name x px, .Name y py, .Name z pz] kt pt] (.Tuple [a, b, c] k2 pt2) pos) (sPar3 i j l ga) := fun H0 O0 hx => PS.imp (ps_par3 hc hN hi hj hl hij hil hjl hx' hy hz (ha H0 O0 hx) hw hs) fun D σ H ⟨env, O, R, post⟩ => by
  refine ⟨env, O, R, PostA_toS post fun l e vs H1 O1 R1 hl p => ?_⟩
  split at p
  · rename_i k1 d1 k2 d2 k3 d3
    cases q : ksB k1 && (ksB k2 && ksB k3) with
    | false => rw [q] at p; exact p.elim
    | true =>
      rw [q] at p
      simp only [Bool.and_eq_true] at q
      obtain ⟨v, r, rfl, h1, w, r2, rfl, h2, u, r3, rfl, h3, h4⟩ := hl
      have h4' : r3 = [] := h4
      subst h4'
      obtain ⟨s1, n1⟩ := held_slot (ksB_ok q.1) h1
      obtain ⟨s2, n2⟩ := held_slot (ksB_ok q.2.1) h2
      obtain ⟨s3, n3⟩ := held_slot (ksB_ok q.2.2) h3
      exact ⟨v, w, u, rfl, p _ H1 O1 (((R1.set s1 fun z => absurd z n1).set s2 fun z => absurd z n2).set s3 fun z => absurd z n3) (Step.refl _ _)⟩
  · exact p.elim
/-! name op= e, ints -/
def sAug (i : Nat) (f : Int → Int → Int) (fa : VEnv → RE) : VEnv → SRes := fun env => match env[i]? with
  | some (some (.sh, .int x)) => (fa env).rel.toS fun _ d e => (match d with
    | .int y => .nx (e.set i (some (.sh, .int (f x y))))
    | _ => .no)
  | _ => .no
theorem vs_aug {i : Nat} {x : Str} {op : Operator} {f : Int → Int → Int} {pos' : Pos} (hp : PIp X op (ipI f)) (hN : X.N.Nodup) (hi : X.N[i]? = some x) (hl : Loc X.env.scope x) (ha : VE X W e fa) (hf : X.fn x = true ∨ X.env.scope.names.lookup x = some .local := by first | exact .inl rfl | exact .inr rfl | assumption) :
    VS X W (.AugAssign (.Name x pos') op e pos) (sAug i f fa) := fun H0 O0 hx => PS.imp (ps_aug hN hi hl (ha H0 O0 hx) hp hf) fun D σ H ⟨env, O, R, post⟩ => by
  unfold sAug at post
  split at post
  · rename_i x' e1
    obtain ⟨v, e2, hs⟩ := R.slot i _ e1
    have ev := den_int (K := X.K) (O := O) (H := H) hs
    subst ev
    refine ⟨_, e2, env, O, R, Post_rel (Post_toS post fun k d e w H1 O1 R1 s1 hk eq p => ?_)⟩
    have hw := (Held.of R1 hk (nofr_rel eq)).den R1
    split at p
    · rename_i y
      have ew := den_int hw
      subst ew
      exact ⟨_, _, rfl, rfl, p _ H1 O1 (R1.set (s := (.sh, .int (f x' y))) (by show Den _ _ _ _ _; simp only [Den]) fun z => by cases z) (Step.refl _ _)⟩
    · exact p.elim
  · exact post.elim
/-! xs.append(e), xs[i] = e: xs a list of ours -/
def sApp (i : Nat) (fa : VEnv → RE) : VEnv → SRes := fun env => match env[i]? with
  | some (some (.own, .lst _)) => (fa env).shr.toS fun _ y e => (match e[i]? with
    | some (some (.own, .lst ds)) => (match decide (ds.length < lineN) with
      | true => .nx (e.set i (some (.own, .lst (ds ++ [y]))))
      | false => .no)
    | _ => .no)
  | _ => .no
theorem vs_append {i : Nat} {x : Str} {px apos cpos : Pos} (hi : X.N[i]? = some x) (hv : Vis X.env.scope x) (ha : VE X W a fa) (hs : starEach [a] X.env = (false, eval a X.env) :: starEach [] X.env := by rfl)
    (hd : (x == ("__debug__" : Str)) = false := by decide) (hcd : (x == ("__classdict__" : Str)) = false := by decide)
    (hfew : ((backTo cpos (starEach [a] X.env)).all (fun x => !x.1) && (backToKw cpos (keywordEach [] X.env)).all (fun x => x.1.isSome) && decide ([a].length + ([] : List Keyword).length + (if ([] : List Keyword).isEmpty then 0 else 1) < 30)) = true := by rfl)
    (hline : (apos.endLine == cpos.line) = true := by rfl) (hbase : attributeBase (.Name x px) "append" X.env (eval (.Name x px) X.env) = eval (.Name x px) X.env := by rfl) (hsw : swapsWith (.Call (.Attribute (.Name x px) "append" apos) [a] [] cpos) none pos.line X.env = pure false := by rfl) :
    VS X W (.Expr (.Call (.Attribute (.Name x px) "append" apos) [a] [] cpos) pos) (sApp i fa) := fun H0 O0 hx => by
  have h1 := pe_bm (X := X) (apos := apos) (cpos := cpos) (e := a) (es := []) PySem.F.plainAttrs_list PySem.F.slot_list_append PySem.F.type_list_append mt_append (pe_var (pos := px) hi hv hd hcd) (pa_cons (ha H0 O0 hx) pa_nil hs) hbase hfew hline hs (by rfl)
  refine PS.imp (ps_expr h1 hsw) fun D σ H ⟨env, O, R, post⟩ => ?_
  unfold sApp at post
  split at post
  · rename_i ds0 e1
    obtain ⟨v, e2, l, ev, hO, h0, hc⟩ := R.slot i _ e1
    subst ev
    obtain ⟨xs0, hl0, hd0⟩ := hc
    refine ⟨_, e2, .inl ⟨rfl, xs0, SqL.of hl0⟩, env, O, R, Post_shr (Post_toS post fun k y e w H1 O1 R1 s1 hk eq p => ?_)⟩
    have ek := nofr_shr eq
    subst ek
    split at p
    · rename_i ds e3
      split at p
      · rename_i hz
        obtain ⟨v', e4, l', ev', hO', h0', hc'⟩ := R1.slot i _ e3
        rw [e2] at e4
        cases e4
        cases ev'
        obtain ⟨xs, hl, hd'⟩ := hc'
        have hz' : xs.length < sizeLine := by rw [← hd'.length, ← lineN_eq]; exact of_decide_eq_true hz
        refine ⟨l, xs, w, rfl, rfl, hl, hz', ?_⟩
        have st : Step O1 H1 O1 (upd H1 l (.lst (xs ++ [w]))) := ⟨fun b u n q => by rw [upd_ne (fun z => n (by rw [z]; exact hO'))]; exact q, fun _ z => .inl z⟩
        obtain ⟨R2, s2⟩ := R1.write (d' := .lst (ds ++ [y])) (o := .lst (xs ++ [w])) e3 e2 hO' h0' True.intro ⟨xs ++ [w], upd_same, (DenL.step st _ _ hd').append (DenL.cons (Den.step st y w hk) DenL.nil)⟩
        exact p σ _ O1 R2 s2
      · exact p.elim
    · exact p.elim
  · exact post.elim
/-- xs[k] = e -/
def sPut (i : Nat) (fa fb : VEnv → RE) : VEnv → SRes := fun env => (fa env).shr.toS fun _ y e => match e[i]? with
  | some (some (.own, .lst _)) => (fb e).rel.toS fun _ dk e2 => (match dk, e2[i]? with
    | .int k, some (some (.own, .lst ds)) => (match ixN ds.length k with
      | some j => .nx (e2.set i (some (.own, .lst (ds.set j y))))
      | none => .no)
    | _, _ => .no)
  | _ => .no
theorem vs_put {i : Nat} {x : Str} {px spos : Pos} (hi : X.N[i]? = some x) (hv : Vis X.env.scope x) (ha : VE X W a fa) (hb : VE X W b fb)
    (hd : (x == ("__debug__" : Str)) = false := by decide) (hcd : (x == ("__classdict__" : Str)) = false := by decide)
    (hasg : ∀ v, assign (.Subscript (.Name x px) b spos) X.env v = (do
      let ov ← holding [v] (eval (.Name x px) X.env)
      let iv ← holding [v, ov] (eval b X.env)
      standAt spos
      holding [v, ov, iv] (setItem ov iv v)
      release [v, ov, iv] []) := by intro _; rfl)
    (hs : swapsWithSole [.Subscript (.Name x px) b spos] a pos.line X.env = pure false := by rfl) (hw : swappedStores [.Subscript (.Name x px) b spos] a X.env = pure none := by rfl)
    (h1 : (assignEach [.Subscript (.Name x px) b spos] X.env).map (·.2) = [assign (.Subscript (.Name x px) b spos) X.env] := by rfl) :
    VS X W (.Assign [.Subscript (.Name x px) b spos] a pos) (sPut i fa fb) := fun H0 O0 hx => by
  refine PS.imp (ps_asg (ha H0 O0 hx) (pg_sub (pe_var (pos := px) hi hv hd hcd) (hb H0 O0 hx) set_list hasg) hs hw h1) fun D σ H ⟨env, O, R, post⟩ => ?_
  refine ⟨env, O, R, Post_shr (Post_toS post fun k y e w H1 O1 R1 s1 hk eq p => ?_)⟩
  have ek := nofr_shr eq
  subst ek
  split at p
  · rename_i ds0 e1
    obtain ⟨v, e2, l, ev, _⟩ := R1.slot i _ e1
    subst ev
    refine ⟨_, e2, e, O1, R1, Post_rel (Post_toS p fun k2 dk e3 u H2 O2 R2 s2 hk2 eq2 p2 => ?_)⟩
    have hu := (Held.of R2 hk2 (nofr_rel eq2)).den R2
    split at p2
    · rename_i kk ds e4
      have eu := den_int hu
      subst eu
      obtain ⟨v', e5, l', ev', hO, h0, hc⟩ := R2.slot i _ e4
      rw [e2] at e5
      cases e5
      cases ev'
      obtain ⟨xs, hl, hd'⟩ := hc
      split at p2
      · rename_i j hj
        refine ⟨l, xs, kk, j, rfl, rfl, hl, by rw [← hd'.length]; exact hj, ?_⟩
        have st : Step O2 H2 O2 (upd H2 l (.lst (xs.set j w))) := ⟨fun b u n q => by rw [upd_ne (fun z => n (by rw [z]; exact hO))]; exact q, fun _ z => .inl z⟩
        obtain ⟨R3, s3⟩ := R2.write (d' := .lst (ds.set j y)) (o := .lst (xs.set j w)) e4 e2 hO h0 True.intro ⟨xs.set j w, upd_same, (DenL.step st _ _ hd').set j (Den.step st y w (Den.step s2.st y w hk))⟩
        exact p2 σ _ O2 R3 s3
      · exact p2.elim
    · exact p2.elim
  · exact p.elim
end
end Vi

set_option Elab.async false
set_option linter.all false
set_option maxRecDepth 100000
namespace Vi
open PySem PySem.Spec PyProof.Rows L2

/-! ### for -/
def forL (γ : Kd → D → VEnv → Option VEnv) (f : VEnv → SRes) (k : Kd) : List D → VEnv → SRes
  | [], e => .nx e
  | d :: ds, e => (match γ k d e with
    | some e1 => (match f e1 with
      | .nx e2 => forL γ f k ds e2
      | .ct e2 => forL γ f k ds e2
      | .bk e2 => .nx e2
      | r => r)
    | none => .no)
def sFor (fi : VEnv → RI) (γ : Kd → D → VEnv → Option VEnv) (f : VEnv → SRes) : VEnv → SRes := fun env => match fi env with
  | .ok k ds e => forL γ f k ds e
  | .ex x e => .ex x e
  | .no => .no
/-! ### while -/
def whL (ft : VEnv → RT) (f : VEnv → SRes) : Nat → VEnv → SRes
  | 0, _ => .no
  | n + 1, e => (ft e).toS fun b e1 => (match b with
    | true => (match f e1 with
      | .nx e2 => whL ft f n e2
      | .ct e2 => whL ft f n e2
      | .bk e2 => .nx e2
      | r => r)
    | false => .nx e1)
section
variable {X : Cx} {W : WX} {tg iter c : Expr} {body : List Stmt} {pos : Pos} {fi : VEnv → RI} {γ : Kd → D → VEnv → Option VEnv} {f : VEnv → SRes} {ft : VEnv → RT} {is : List Nat}
theorem vs_for (hp : PassesOwn (model X.prog X.w) X.A X.env X.xe) (hc : X.calm = true) (hi : VI X W tg iter fi) (hg : VG X tg is γ) (hb : VSs X W body f) (hs : ∀ x, foldedSetIterable iter X.env x = pure x := by intro _; rfl) :
    VS X W (.For tg iter body [] pos) (sFor fi γ f) := fun H0 O0 hx => by
  obtain ⟨g, hg1, hg2⟩ := hg
  refine PS.imp (ps_for hp hc (hi H0 O0 hx) hg1 (hb H0 O0 hx) hs) fun D σ H ⟨env, O, R, post⟩ => ⟨env, O, R, ?_⟩
  unfold sFor at post
  cases e1 : fi env with
  | no => rw [e1] at post; exact post.elim
  | ex x e => rw [e1] at post; exact fun H' O' c dd R s hx => post σ H' O' c dd R s.st hx
  | ok k ds e =>
    rw [e1] at post
    dsimp only at post
    intro J H1 O1 R1 s1 it
    have post1 := PostS.from s1.st post
    refine ⟨fun i m σ H => m = ds.length - i ∧ i ≤ ds.length ∧ ∃ e O, Rel X.K H0 O0 e σ H O ∧ IterOk X.K H0 J k ds O H ∧ PostS X.K H0 O0 W D O H (forL γ f k (ds.drop i) e), ⟨ds.length, by simp, Nat.zero_le _, e, O1, R1, it, by simpa using post1⟩, ?_⟩
    rintro i m σ2 H2 ⟨rfl, hil, e2, O2, R2, it2, p2⟩
    obtain ⟨hstop, hgo⟩ := it2 _ _ (Step.refl _ _) R2.fits
    by_cases hlt : i < ds.length
    · have hd : ds[i]? = some ds[i] := List.getElem?_eq_getElem hlt
      obtain ⟨hgo1, hyld⟩ := hgo i ds[i] hd
      rw [List.drop_eq_getElem_cons hlt] at p2
      unfold forL at p2
      refine .inr ⟨hgo1, fun σ H => ∃ e O, Rel X.K H0 O0 e σ H O ∧ IterOk X.K H0 J k ds O H ∧ PostS X.K H0 O0 W D O H (forL γ f k (ds.drop (i + 1)) e), fun σ' H' z => ⟨ds.length - (i + 1), by omega, rfl, hlt, z⟩, fun x H3 hy => ?_⟩
      obtain ⟨kp, hitem⟩ := hyld x H3 hy
      have st3 : Step O2 H2 O2 H3 := ⟨fun a o _ q => kp a o q, fun a z => .inl z⟩
      have R3 := R2.kept kp
      have p3 := PostS.from st3 p2
      cases eg : γ k ds[i] e2 with
      | none => rw [eg] at p3; exact p3.elim
      | some e4 =>
        rw [eg] at p3
        dsimp only at p3
        refine hg2 H0 O0 k ds[i] e2 e4 x σ2 H3 O2 _ eg R3 hitem fun σ4 R4 _ => ⟨e4, O2, R4, ?_⟩
        have it3 : IterOk X.K H0 J k ds O2 H3 := it2.step st3
        cases ef : f e4 with
        | nx e5 => rw [ef] at p3; exact fun σ5 H5 O5 R5 s5 => ⟨e5, O5, R5, it3.step s5, PostS.from s5 p3⟩
        | ct e5 => rw [ef] at p3; exact fun σ5 H5 O5 R5 s5 => ⟨e5, O5, R5, it3.step s5, PostS.from s5 p3⟩
        | bk e5 => rw [ef] at p3; exact p3
        | rt k5 d5 e5 => rw [ef] at p3; exact p3
        | ex x5 e5 => rw [ef] at p3; exact p3
        | no => rw [ef] at p3; exact p3
    · have ei : i = ds.length := by omega
      subst ei
      rw [List.drop_length] at p2
      exact .inl ⟨hstop _ (Nat.le_refl _), PostS_nx p2 R2⟩
theorem vs_while (n : Nat) (hp : PassesOwn (model X.prog X.w) X.A X.env X.xe) (hc : VT X W c ft) (hb : VSs X W body f) : VS X W (.While c body [] pos) (whL ft f n) := fun H0 O0 hx => by
  refine PS.imp (ps_while hp (hc H0 O0 hx) (hb H0 O0 hx)) fun D σ H ⟨env, O, R, post⟩ => ?_
  refine ⟨fun m σ H => ∃ e O, Rel X.K H0 O0 e σ H O ∧ PostS X.K H0 O0 W D O H (whL ft f m e), ⟨n, env, O, R, post⟩, ?_⟩
  rintro m σ2 H2 ⟨e2, O2, R2, p2⟩
  cases m with
  | zero => exact p2.elim
  | succ m =>
    unfold whL at p2
    refine ⟨e2, O2, R2, PostT_toS p2 fun b e3 H3 O3 R3 s3 p3 => ?_⟩
    cases b with
    | false => rw [if_neg Bool.false_ne_true]; exact PostS_nx p3 R3
    | true =>
      rw [if_pos rfl]
      refine ⟨fun σ H => ∃ e O, Rel X.K H0 O0 e σ H O ∧ PostS X.K H0 O0 W D O H (whL ft f m e), fun σ' H' z => ⟨m, Nat.lt_succ_self m, z⟩, e3, O3, R3, ?_⟩
      dsimp only at p3
      cases ef : f e3 with
      | nx e5 => rw [ef] at p3; exact fun σ5 H5 O5 R5 s5 => ⟨e5, O5, R5, PostS.from s5 p3⟩
      | ct e5 => rw [ef] at p3; exact fun σ5 H5 O5 R5 s5 => ⟨e5, O5, R5, PostS.from s5 p3⟩
      | bk e5 => rw [ef] at p3; exact p3
      | rt k5 d5 e5 => rw [ef] at p3; exact p3
      | ex x5 e5 => rw [ef] at p3; exact p3
      | no => rw [ef] at p3; exact p3
/-! ### raise X('..') -/
theorem vs_raise {e : Expr} {x : Str} (hc : X.calm = true) (tk : Takes X W) (he : PMk X e (fun _ H Q => Q (.ref (He.ga X.K x)) none H)) : VS X W (.Raise (some e) none pos) (fun env => .ex ⟨x, none⟩ env) := fun H0 O0 hx =>
  PS.imp (ps_raise hc tk he) fun D σ H ⟨env, O, R, post⟩ => post σ H O _ _ R (Step.refl _ _) ⟨rfl, rfl⟩
end

/-! ### try .. except -/
def unExn (e : VEnv) : VEnv := e.map fun s => match s with
  | some (.exn, _) => none
  | s => s
def SRes.unX : SRes → SRes
  | .nx e => .nx (unExn e)
  | .bk e => .bk (unExn e)
  | .ct e => .ct (unExn e)
  | .rt k d e => .rt k d (unExn e)
  | .ex _ _ => .no
  | .no => .no
/-- a clause: which classes it takes; its suite -/
structure Hd where
  mt : Str → Option Bool
  f : VEnv → SRes
def handle : List Hd → Xn → VEnv → SRes
  | [], x, e => .ex x e
  | h :: hs, x, e => (match h.mt x.cls with
    | some true => (h.f (unExn e)).unX
    | some false => handle hs x e
    | none => .no)
def sTry (f : VEnv → SRes) (hs : List Hd) : VEnv → SRes := fun env => match f env with
  | .ex x e => handle hs x e
  | r => r
section
variable {K : PySem.W.Frag} {H0 : H0T} {H H' H1 : Hp} {O0 O O' O1 : Av} {W W' : WX} {env e : VEnv} {σ : L2.St} {Q : VK} {D D' : Ends}
theorem unExn_get {i : Nat} {s : Md × Vi.D} (h : (unExn e)[i]? = some (some s)) : e[i]? = some (some s) ∧ s.1 ≠ .exn := by
  unfold unExn at h
  rw [List.getElem?_map] at h
  simp only [Option.map_eq_some_iff] at h
  obtain ⟨o, h1, h2⟩ := h
  split at h2
  · cases h2
  · rename_i hn
    subst h2
    refine ⟨h1, fun z => ?_⟩
    obtain ⟨m, d⟩ := s
    have z' : m = .exn := z
    subst z'
    exact hn d rfl
theorem unExn_own {i : Nat} {d : Vi.D} (h : e[i]? = some (some (.own, d))) : (unExn e)[i]? = some (some (.own, d)) := by
  unfold unExn
  rw [List.getElem?_map, h]
  rfl
/-- the handled exception does not matter -/
theorem Rel.reX (R : Rel K H0 O0 e σ H O) {G : H0T} (hg : G.h = H0.h) : Rel K G O0 (unExn e) σ H O := by
  have k : ∀ a, G a = H0 a := fun a => by rw [hg]
  refine ⟨fun a o h => R.ext a o (by rw [← k]; exact h), R.sub, fun a h => by rw [k]; exact R.live0 a h, fun a h => by rw [k]; exact R.new a h, R.mt, by unfold unExn; rw [List.length_map]; exact R.len, fun i s h => ?_, fun i j d e' a hij h1 h2 => ?_⟩
  · obtain ⟨h1, h2⟩ := unExn_get h
    obtain ⟨v, e1, hs⟩ := R.slot i s h1
    refine ⟨v, e1, ?_⟩
    obtain ⟨m, d⟩ := s
    cases m with
    | sh => exact hs
    | tnt => show Den K noA G.h d v; rw [hg]; exact hs
    | exn => exact absurd rfl h2
    | own =>
      obtain ⟨a, ev, q1, q2, q3⟩ := hs
      exact ⟨a, ev, q1, by rw [k]; exact q2, q3⟩
  · exact R.dis i j d e' a hij (unExn_get h1).1 (unExn_get h2).1
theorem KOk.reX {k : Kd} {d : Vi.D} {v : V} {G : H0T} (hg : G.h = H0.h) (h : KOk K H0 O H σ e k d v) : KOk K G O H σ (unExn e) k d v := by
  cases k with
  | sh => exact h
  | tnt => show Den K noA G.h d v; rw [hg]; exact h
  | fr =>
    obtain ⟨p, ev, h1, h2, h3, h4⟩ := h
    exact ⟨p, ev, h1, by show G.h p = none; rw [hg]; exact h2, h3, fun i z q => h4 i z (unExn_get q).1⟩
  | own i => exact ⟨h.1, unExn_own h.2⟩
/-- behind a suite -/
theorem PostS_unX {G : H0T} {r : SRes} (hg : G.h = H0.h) (h : PostS K H0 O0 W D O H r.unX) : PostS K G O0 W0 D O H r := by
  have hg' : H0.h = G.h := hg.symm
  cases r with
  | nx e => exact fun σ' H' O' R s => h σ' H' O' (R.reX hg') s
  | bk e => exact fun σ' H' O' R s => h σ' H' O' (R.reX hg') s
  | ct e => exact fun σ' H' O' R s => h σ' H' O' (R.reX hg') s
  | rt k d e => exact fun v σ' H' O' R s hk => h v σ' H' O' (R.reX hg') s (hk.reX hg')
  | ex x e => exact h.elim
  | no => exact h
end
section
variable {X : Cx} {W : WX} {body suite : List Stmt} {b₀ : Stmt} {x : Str} {c : Value} {np pos pos' : Pos} {f fs : VEnv → SRes}
/-- a clause's classes -/
def MtOk (K : PySem.W.Frag) (c : Value) (mt : Str → Option Bool) : Prop := ∀ nm b, mt nm = some b → PySem.W.exmOne K (.ref (He.ga K nm)) c = some b
/-- a suite's derivation -/
def VSuite (X : Cx) (sts : List Stmt) (fs : VEnv → SRes) : Prop := ∀ (a : Addr) (oe : Obj) (pn : List (Addr × Obj)), VSs (X.suite a ((a, oe) :: pn)) W0 sts fs
theorem hx_suite {a : Addr} {oe : Obj} {pn : List (Addr × Obj)} {h : Hp} : HX (X.suite a ((a, oe) :: pn)) ⟨h, a, some oe⟩ := fun _ b oe' rest hb hp => by
  have hb' : (some (Value.ref a) : Option Value) = some (.ref b) := hb
  have hp' : (a, oe) :: pn = (b, oe') :: rest := hp
  cases hp'
  exact ⟨rfl, rfl⟩
theorem hx_calm {H0 : H0T} (hc : X.calm = true) : HX X H0 := fun z => by rw [hc] at z; cases z
/-- a suite's reading: whatever the exception's object -/
def tSu (K : PySem.W.Frag) (H0 : H0T) (O0 : Av) (fs : VEnv → SRes) (a : Addr) (cls : Value) (d : Option Addr) : TS := fun D σ H => ∀ oe, Zc cls d oe → (∃ vs, oe.data = .fields vs) → tS K ⟨H0.h, a, some oe⟩ O0 W0 fs D σ H
theorem su_run {H0 : H0T} {O0 : Av} (hsu : VSuite X (b₀ :: suite) fs) (a : Addr) (oe : Obj) (cls : Value) (d : Option Addr) (pn : List (Addr × Obj)) (hz : Zc cls d oe) (hf : ∃ vs, oe.data = .fields vs) : PSs (X.suite a ((a, oe) :: pn)) (b₀ :: suite) (tSu X.K H0 O0 fs a cls d) :=
  ⟨fun pins s σ H D I h => (hsu a oe pn ⟨H0.h, a, some oe⟩ O0 hx_suite).run pins s σ H D I (h oe hz hf)⟩
theorem su_only {K : PySem.W.Frag} {H0 : H0T} {O0 O : Av} {H : Hp} {D : Ends} {σ : L2.St} {e : VEnv} {a : Addr} {cls : Value} {d : Option Addr} (R : Rel K H0 O0 e σ H O) (p : PostS K H0 O0 W D O H (fs (unExn e)).unX) : tSu K H0 O0 fs a cls d D σ H :=
  fun oe _ _ => ⟨unExn e, O, R.reX (G := ⟨H0.h, a, some oe⟩) rfl, PostS_unX (H0 := H0) rfl (by
    cases q : (fs (unExn e)).unX with
    | ex x e' => exfalso; cases q2 : fs (unExn e) <;> rw [q2] at q <;> cases q
    | nx e' => rw [q] at p; exact p
    | bk e' => rw [q] at p; exact p
    | ct e' => rw [q] at p; exact p
    | rt k d' e' => rw [q] at p; exact p
    | no => rw [q] at p; exact p)⟩
/-- try .. except x: suite -/
theorem vs_try1 {mt : Str → Option Bool} (hcl : X.calm = true) (hs : X.stack = X.env :: X.outer) (hf : X.env.frame = some X.env.locals) (hc : Names X x c) (tk : Takes X W) (hm : MtOk X.K c mt)
    (hb : ∀ (W : WX) (pn : List (Addr × Obj)) (xe : Value → Shared → Prop), Takes (X.tr pn xe) W → PassesOwn (model X.prog X.w) X.A X.env xe → VSs (X.tr pn xe) W body f) (hsu : VSuite X (b₀ :: suite) fs) :
    VS X W (.Try body [.ExceptHandler (some (.Name x np)) none (b₀ :: suite) pos'] [] [] pos) (sTry f [⟨mt, fs⟩]) := fun H0 O0 hx => by
  refine PS.imp (ps_try_only (tb := fun W => tS X.K H0 O0 W f) (ts := tSu X.K H0 O0 fs) hs hf hc tk (fun W pn xe tk po => hb W pn xe tk po H0 O0 (hx_calm hcl)) (fun a oe cls d pn hz hf => su_run hsu a oe cls d pn hz hf)) fun D σ H ⟨env, O, R, post⟩ => ⟨env, O, R, ?_⟩
  unfold sTry at post
  cases e1 : f env with
  | nx e => rw [e1] at post; exact post
  | bk e => rw [e1] at post; exact post
  | ct e => rw [e1] at post; exact post
  | rt k d e => rw [e1] at post; exact post
  | no => rw [e1] at post; exact post
  | ex z e =>
    rw [e1] at post
    intro σ' H' O' c' dd R' s' hxo
    have p2 := PostS.from s' post
    unfold handle at p2
    dsimp only at p2
    cases q : mt z.cls with
    | none => rw [q] at p2; exact p2.elim
    | some b =>
      rw [q] at p2
      refine ⟨b, by rw [hxo.1]; exact hm _ _ q, fun hb a ha => ?_, fun hb => ?_⟩
      · subst hb
        exact su_only R' p2
      · subst hb
        exact p2 σ' H' O' c' dd R' (Step.refl _ _) hxo
/-- several clauses -/
inductive HdsV (X : Cx) : List ExceptHandler → List Hd → Prop
  | nil : HdsV X [] []
  | cons {x : Str} {c : Value} {b₀ : Stmt} {suite : List Stmt} {np pos' : Pos} {hds : List ExceptHandler} {hs : List Hd} {mt : Str → Option Bool} {fs : VEnv → SRes} (hc : Names X x c) (hm : MtOk X.K c mt) (hsu : VSuite X (b₀ :: suite) fs) (r : HdsV X hds hs) :
      HdsV X (.ExceptHandler (some (.Name x np)) none (b₀ :: suite) pos' :: hds) (⟨mt, fs⟩ :: hs)
theorem hdsV_of {H0 : H0T} {O0 : Av} : ∀ {hds : List ExceptHandler} {hs : List Hd}, HdsV X hds hs → ∃ l, HdsOk X hds l ∧ ∀ (D : Ends) (z : Xn) (e : VEnv) (σ : L2.St) (H : Hp) (O : Av) (c : Value) (dd : Option Addr), Rel X.K H0 O0 e σ H O → XOk X.K O H z c dd → PostS X.K H0 O0 W D O H (handle hs z e) → wMany X.K W D l c dd σ H
  | _, _, .nil => ⟨[], .nil, fun D z e σ H O c dd R hx p => p σ H O c dd R (Step.refl _ _) hx⟩
  | _, _, .cons (mt := mt) (fs := fs) (hs := hs) hc hm hsu r => by
    obtain ⟨l, h1, h2⟩ := hdsV_of (H0 := H0) (O0 := O0) r
    refine ⟨_, HdsOk.cons (ts := tSu X.K H0 O0 fs) hc (fun a oe cls d pn hz hf => su_run hsu a oe cls d pn hz hf) h1, fun D z e σ H O c dd R hx p => ?_⟩
    unfold handle at p
    dsimp only at p
    cases q : mt z.cls with
    | none => rw [q] at p; exact p.elim
    | some b =>
      rw [q] at p
      refine ⟨b, by rw [hx.1]; exact hm _ _ q, fun hb a ha => ?_, fun hb => ?_⟩
      · subst hb
        exact su_only R p
      · subst hb
        exact h2 D z e σ H O c dd R hx p
theorem vs_tryN {h₀ : ExceptHandler} {hds : List ExceptHandler} {l : List Hd} (hcl : X.calm = true) (hs : X.stack = X.env :: X.outer) (hf : X.env.frame = some X.env.locals) (tk : Takes X W)
    (hb : ∀ (W : WX) (pn : List (Addr × Obj)) (xe : Value → Shared → Prop), Takes (X.tr pn xe) W → PassesOwn (model X.prog X.w) X.A X.env xe → VSs (X.tr pn xe) W body f) (hh : HdsV X (h₀ :: hds) l) :
    VS X W (.Try body (h₀ :: hds) [] [] pos) (sTry f l) := fun H0 O0 hx => by
  obtain ⟨l', g1, g2⟩ := hdsV_of (W := W) (H0 := H0) (O0 := O0) hh
  refine PS.imp (ps_try_many (tb := fun W => tS X.K H0 O0 W f) hs hf tk (fun W pn xe tk po => hb W pn xe tk po H0 O0 (hx_calm hcl)) g1) fun D σ H ⟨env, O, R, post⟩ => ⟨env, O, R, ?_⟩
  unfold sTry at post
  cases e1 : f env with
  | nx e => rw [e1] at post; exact post
  | bk e => rw [e1] at post; exact post
  | ct e => rw [e1] at post; exact post
  | rt k d e => rw [e1] at post; exact post
  | no => rw [e1] at post; exact post
  | ex z e =>
    rw [e1] at post
    exact fun σ' H' O' c' dd R' s' hxo => g2 D z e σ' H' O' c' dd R' hxo (PostS.from s' post)
/-- try .. except x as n: suite; n in slot i -/
def SRes.unS (i : Nat) : SRes → SRes
  | .nx e => .nx ((unExn e).set i none)
  | .bk e => .bk ((unExn e).set i none)
  | .ct e => .ct ((unExn e).set i none)
  | .rt .sh d e => .rt .sh d (unExn e)
  | _ => .no
def sTryAs (i : Nat) (f : VEnv → SRes) (mt : Str → Option Bool) (fs : VEnv → SRes) : VEnv → SRes := fun env => match f env with
  | .ex x e => (match mt x.cls, x.pl with
    | some true, none => (fs ((unExn e).set i (some (.exn, .cls x.cls)))).unS i
    | some false, _ => .ex x e
    | _, _ => .no)
  | r => r
theorem vs_tryAs {i : Nat} {n : Str} {mt : Str → Option Bool} (hcl : X.calm = true) (hs : X.stack = X.env :: X.outer) (hf : X.env.frame = some X.env.locals) (hN : X.N.Nodup) (hi : X.N[i]? = some n) (hln : X.env.kindOf n = some .local) (hc : Names X x c) (tk : Takes X W) (hm : MtOk X.K c mt)
    (hb : ∀ (W : WX) (pn : List (Addr × Obj)) (xe : Value → Shared → Prop), Takes (X.tr pn xe) W → PassesOwn (model X.prog X.w) X.A X.env xe → VSs (X.tr pn xe) W body f) (hsu : VSuite X (b₀ :: suite) fs) :
    VS X W (.Try body [.ExceptHandler (some (.Name x np)) (some n) (b₀ :: suite) pos'] [] [] pos) (sTryAs i f mt fs) := fun H0 O0 hx => by
  refine PS.imp (ps_try_as (tb := fun W => tS X.K H0 O0 W f) (ts := tSu X.K H0 O0 fs) hs hf hN hi hln hc tk (fun W pn xe tk po => hb W pn xe tk po H0 O0 (hx_calm hcl)) (fun a oe cls d pn hz hf => su_run hsu a oe cls d pn hz hf)) fun D σ H ⟨env, O, R, post⟩ => ⟨env, O, R, ?_⟩
  unfold sTryAs at post
  cases e1 : f env with
  | nx e => rw [e1] at post; exact post
  | bk e => rw [e1] at post; exact post
  | ct e => rw [e1] at post; exact post
  | rt k d e => rw [e1] at post; exact post
  | no => rw [e1] at post; exact post
  | ex z e =>
    rw [e1] at post
    intro σ' H' O' c' dd R' s' hxo
    have p2 := PostS.from s' post
    dsimp only at p2
    cases q : mt z.cls with
    | none => rw [q] at p2; exact p2.elim
    | some b =>
      rw [q] at p2
      cases b with
      | false => exact ⟨false, by rw [hxo.1]; exact hm _ _ q, fun hb => Bool.noConfusion hb, fun _ => p2 σ' H' O' c' dd R' (Step.refl _ _) hxo⟩
      | true =>
        cases q2 : z.pl with
        | some pl => rw [q2] at p2; exact p2.elim
        | none =>
          rw [q2] at p2
          dsimp only at p2
          refine ⟨true, by rw [hxo.1]; exact hm _ _ q, fun _ a ha oe hz hfd => ?_, fun hb => Bool.noConfusion hb⟩
          have hdd : dd = none := by
            have h2 := hxo.2
            rw [q2] at h2
            exact h2
          have RX := (R'.reX (G := ⟨H0.h, a, some oe⟩) rfl).set (i := i) (v := .ref a) (s := (.exn, .cls z.cls)) ⟨rfl, oe, rfl, by rw [hz.1, hxo.1], by rw [hz.2, hdd], hfd⟩ (fun z => by cases z)
          refine ⟨_, O', RX, ?_⟩
          have back : ∀ {e' : VEnv} {σ2 : L2.St} {H2 : Hp} {O2 : Av}, Rel X.K ⟨H0.h, a, some oe⟩ O0 e' σ2 H2 O2 → Rel X.K H0 O0 ((unExn e').set i none) (σ2.set i none) H2 O2 := fun {e' σ2 H2 O2} R2 => (R2.reX (G := H0) rfl).unset
          cases q3 : fs ((unExn e).set i (some (.exn, .cls z.cls))) with
          | nx e' => rw [q3] at p2; exact fun σ2 H2 O2 R2 s2 => p2 _ H2 O2 (back R2) s2
          | bk e' => rw [q3] at p2; exact fun σ2 H2 O2 R2 s2 => p2 _ H2 O2 (back R2) s2
          | ct e' => rw [q3] at p2; exact fun σ2 H2 O2 R2 s2 => p2 _ H2 O2 (back R2) s2
          | rt k d e' =>
            rw [q3] at p2
            cases k with
            | sh => exact fun v σ2 H2 O2 R2 s2 hk => p2 v σ2 H2 O2 (R2.reX rfl) s2 hk
            | _ => exact p2.elim
          | ex _ _ => rw [q3] at p2; exact p2.elim
          | no => rw [q3] at p2; exact p2.elim
/-! isinstance(e, c), e the exception of the suite -/
def clV (K : PySem.W.Frag) : D → Value
  | .cls y => .ref (He.ga K y)
  | .ty t => .type t.nm
  | _ => .none
def ExTOk (K : PySem.W.Frag) (tb : Str → D → Option Bool) : Prop := ∀ nm d b, tb nm d = some b → ExcC K (He.ga K nm) ∧ PySem.W.kitOne K (.ref (He.ga K nm)) (clV K d) = some b
def rIsV (K : PySem.W.Frag) (a : Addr) (oe : Obj) : List V → Hp → VK → Prop := fun xs H Q => ∃ (Dc : Addr) (c : V) (cv : Value) (b : Bool), xs = [.ref a, c] ∧ ExcC K Dc ∧ Zc (.ref Dc) none oe ∧ (∃ vs, oe.data = .fields vs) ∧ (∀ u, RelV c u → u = cv) ∧ PySem.W.kitOne K (.ref Dc) cv = some b ∧ Q (.bl b) H
theorem call_isV {a : Addr} {oe : Obj} {pn : List (Addr × Obj)} : CallR (X.suite a ((a, oe) :: pn)) (.builtin "isinstance") (rIsV X.K a oe) := by
  intro pins s σ H xs us Q I r h
  obtain ⟨Dc, c, cv, b, rfl, h1, h2, h3, h4, h5, q⟩ := h
  exact call_isE h1 h2 h3 pins s σ H _ us Q I r ⟨c, cv, b, rfl, h4, h5, q⟩
def oneC : D → Bool
  | .cls _ => true
  | .ty _ => true
  | _ => false
def vIsE (i : Nat) (tb : Str → D → Option Bool) (fb : VEnv → RE) : VEnv → RE := fun env => match env[i]? with
  | some (some (.exn, .cls nm)) => (fb env).rel.bind fun _ d e => (match oneC d with
    | true => (match tb nm d with
      | some b => .ok .sh (.bl b) e
      | none => .no)
    | false => .no)
  | _ => .no
theorem ve_isE {i : Nat} {n : Str} {b' : Expr} {pe' pn' pos : Pos} {tb : Str → D → Option Bool} {fb : VEnv → RE} {a : Addr} {oe : Obj} {pn : List (Addr × Obj)} (ht : ExTOk X.K tb) (hg : Gl X "isinstance") (hm : X.mg "isinstance" = none) (hi : X.N[i]? = some n) (hv : Vis X.env.scope n) (hb : VE (X.suite a ((a, oe) :: pn)) W b' fb)
    (hd : (n == ("__debug__" : Str)) = false := by decide) (hcd : (n == ("__classdict__" : Str)) = false := by decide)
    (hs1 : starEach [.Name n pe', b'] X.env = (false, eval (.Name n pe') X.env) :: starEach [b'] X.env := by rfl) (hs2 : starEach [b'] X.env = (false, eval b' X.env) :: starEach [] X.env := by rfl) (hpl : (backTo pos (starEach [b'] X.env)).any (·.1) = false := by rfl) :
    VE (X.suite a ((a, oe) :: pn)) W (.Call (.Name "isinstance" pn') [.Name n pe', b'] [] pos) (vIsE i tb fb) := fun H0 O0 hx => by
  refine PE.imp (pe_callB (X := X.suite a ((a, oe) :: pn)) call_isV hg hm PyProof.Rows.boot_isinstance (pa_cons (X := X.suite a ((a, oe) :: pn)) (pe_var hi hv hd hcd) (pa_cons (hb H0 O0 hx) pa_nil hs2) hs1) (by decide) (by decide) hs1 hpl) fun σ H Q ⟨env, O, R, post⟩ => ?_
  unfold vIsE at post
  split at post
  · rename_i nm e1
    obtain ⟨v, e2, ev, oe', h1, h2, h3, h4⟩ := R.slot i _ e1
    subst ev
    obtain ⟨hxa, hxo⟩ := hx rfl a oe pn rfl rfl
    refine ⟨_, e2, env, O, R, Post_rbind post fun k d e w H1 O1 R1 s1 hk p => ?_⟩
    rw [hxo] at h1
    cases h1
    cases q0 : oneC d with
    | false => rw [q0] at p; exact p.elim
    | true =>
      rw [q0] at p
      dsimp only at p
      cases q1 : tb nm d with
      | none => rw [q1] at p; exact p.elim
      | some b =>
        rw [q1] at p
        obtain ⟨g1, g2⟩ := ht nm d b q1
        have hw := hk.den R1
        have hq : Q (.bl b) H1 := Post_now p R1 (by show Den _ _ _ _ _; simp only [Den])
        cases d with
        | cls y =>
          simp only [Den] at hw
          subst hw
          exact ⟨_, .ref (He.ga X.K y), .ref (He.ga X.K y), b, by rw [hxa], g1, ⟨h2, h3⟩, h4, fun u r => r, g2, hq⟩
        | ty t =>
          simp only [Den] at hw
          subst hw
          exact ⟨_, .ty t.nm, .type t.nm, b, by rw [hxa], g1, ⟨h2, h3⟩, h4, fun u r => r, g2, hq⟩
        | _ => cases q0
  · exact post.elim
end
end Vi

set_option Elab.async false
set_option linter.all false
set_option maxRecDepth 100000
namespace Vi
open PySem PySem.Spec PyProof.Rows L2

/-! ### a def keeps its promise -/
def slotsE : List Bool → List D → VEnv
  | [], _ => []
  | true :: bs, d :: ds => some (.tnt, d) :: slotsE bs ds
  | false :: bs, d :: ds => some (.sh, d) :: slotsE bs ds
  | _ :: bs, [] => none :: slotsE bs []
def startE (n : Nat) (bs : List Bool) (ds : List D) : VEnv := slotsE bs ds ++ List.replicate (n - bs.length) none
def finF : SRes → FR
  | .nx _ => .rt .non
  | .rt .sh d _ => .rt d
  | .rt .tnt d _ => if flat d then .rt d else .no
  | .rt .fr (.lst ds) _ => .fr ds
  | .rt (.own _) (.lst ds) _ => .fr ds
  | .ex x _ => .ex x
  | _ => .no
section
variable {K : PySem.W.Frag} {H : Hp} {O O' : Av}
theorem slotsE_length : ∀ {bs : List Bool} {ds : List D}, (slotsE bs ds).length = bs.length
  | [], _ => rfl
  | true :: bs, d :: ds => by simp [slotsE, slotsE_length (bs := bs)]
  | false :: bs, d :: ds => by simp [slotsE, slotsE_length (bs := bs)]
  | true :: bs, [] => by simp [slotsE, slotsE_length (bs := bs)]
  | false :: bs, [] => by simp [slotsE, slotsE_length (bs := bs)]
theorem slotsE_get {G : H0T} (hG : G.h = H) : ∀ {bs : List Bool} {ds : List D} {vs : List V} {i : Nat} {s : Md × D}, ArgsM K O H bs ds vs → (slotsE bs ds)[i]? = some (some s) → ∃ v, vs[i]? = some v ∧ SlotOk K G O H v s ∧ s.1 ≠ .own
  | [], [], vs, i, s, h, e => by simp [slotsE] at e
  | [], _ :: _, _, _, _, h, _ => h.elim
  | _ :: _, [], _, _, _, h, _ => h.elim
  | true :: bs, d :: ds, vs, 0, s, h, e => by
    obtain ⟨v, r, rfl, h1, _⟩ := h
    simp [slotsE] at e
    subst e
    exact ⟨v, rfl, by show Den K noA G.h d v; rw [hG]; exact h1, fun z => by cases z⟩
  | false :: bs, d :: ds, vs, 0, s, h, e => by
    obtain ⟨v, r, rfl, h1, _⟩ := h
    simp [slotsE] at e
    subst e
    exact ⟨v, rfl, h1, fun z => by cases z⟩
  | true :: bs, d :: ds, vs, i + 1, s, h, e => by
    obtain ⟨v, r, rfl, _, h2⟩ := h
    simpa using slotsE_get hG h2 (i := i) (by simpa [slotsE] using e)
  | false :: bs, d :: ds, vs, i + 1, s, h, e => by
    obtain ⟨v, r, rfl, _, h2⟩ := h
    simpa using slotsE_get hG h2 (i := i) (by simpa [slotsE] using e)
theorem start_rel {N : List Str} {bs : List Bool} {ds : List D} {vs : List V} {G : H0T} (hG : G.h = H) (hm : ∀ a, O a → Mt (H a)) (ha : ArgsM K O H bs ds vs) : Rel K G O (startE N.length bs ds) (L2.start N vs) H O := by
  have hl := ha.length
  have own : ∀ (i : Nat) (s : Md × D), (startE N.length bs ds)[i]? = some (some s) → ∃ v, vs[i]? = some v ∧ SlotOk K G O H v s ∧ s.1 ≠ .own := fun i s h => by
    unfold startE at h
    by_cases hi : i < bs.length
    · rw [List.getElem?_append_left (by rw [slotsE_length]; exact hi)] at h
      exact slotsE_get hG ha h
    · rw [List.getElem?_append_right (by rw [slotsE_length]; omega), List.getElem?_replicate] at h
      split at h
      · cases h
      · cases h
  refine ⟨fun a o h => by rw [← hG]; exact h, fun a h => h, fun a h z => ?_, fun a h => .inl h, hm, ?_, fun i s h => ?_, fun i j d e a _ h1 _ _ => ?_⟩
  · have q := hm a h
    rw [← hG] at q
    have z' : G.h a = none := z
    rw [z'] at q
    exact q
  · unfold startE L2.start
    rw [List.length_append, slotsE_length, List.length_replicate, List.length_append, List.length_map, List.length_replicate, hl]
  · obtain ⟨v, e1, h1, _⟩ := own i s h
    refine ⟨v, ?_, h1⟩
    unfold L2.start
    have hi : i < vs.length := (List.getElem?_eq_some_iff.mp e1).1
    rw [List.getElem?_append_left (by rw [List.length_map]; exact hi), List.getElem?_map, e1]
    rfl
  · obtain ⟨_, _, _, q⟩ := own i _ h1
    exact absurd rfl q
theorem XOk.mono {x : Xn} {c : Value} {dd : Option Addr} (st : Step O H O' H) (h : XOk K O H x c dd) : XOk K O' H x c dd := by
  refine ⟨h.1, ?_⟩
  have h2 := h.2
  cases e : x.pl with
  | none => rw [e] at h2; exact h2
  | some p =>
    rw [e] at h2
    obtain ⟨dx, fs, e1, e2, e3, e4⟩ := h2
    exact ⟨dx, fs, e1, e2, e3, DenL.step st _ _ e4⟩
theorem fin_ok {G : H0T} (hG : G.h = H) {Q : VK} {E : XK} {r : SRes} (hp : PostF K H O Q E (finF r)) : PostS K G O (fun c d _ H => E c d H) { nx := fun _ H' => Q .non H', rt := Q } O H r := by
  have ext : ∀ {e : VEnv} {σ : L2.St} {H' : Hp} {O' : Av}, Rel K G O e σ H' O' → ∀ a o, H a = some o → H' a = some o := fun R a o h => R.ext a o (by show G.h a = some o; rw [hG]; exact h)
  have sub : ∀ {e : VEnv} {σ : L2.St} {H' : Hp} {O' : Av}, Rel K G O e σ H' O' → Step O' H' O H' := fun R => ⟨fun a o _ h => h, fun a h => .inl (R.sub a h)⟩
  have fresh : ∀ {e : VEnv} {σ : L2.St} {H' : Hp} {O' : Av} {p : Addr} {ds : List D}, Rel K G O e σ H' O' → O' p → G p = none → OwnC K O' H' p (.lst ds) → PostF K H O Q E (.fr ds) → Q (.ref p) H' := fun {e σ H' O' p ds} R hO h0 hc hp => by
    obtain ⟨xs, h1, h2⟩ := hc
    refine hp p xs H' (ext R) (by rw [← hG]; exact h0) h1 (DenL.step ⟨fun a o _ h => h, fun a h => .inl (h.elim (R.sub a) fun e => by rw [e]; exact hO)⟩ _ _ h2)
  cases r with
  | nx e => exact fun σ' H' O' R _ => hp .non H' (ext R) (by simp only [Den])
  | bk e => exact hp.elim
  | ct e => exact hp.elim
  | no => exact hp.elim
  | ex x e => exact fun σ' H' O' c dd R _ hx => hp H' c dd (ext R) (hx.mono (sub R))
  | rt k d e =>
    intro v σ' H' O' R _ hk
    cases k with
    | sh => exact hp v H' (ext R) (Den.step (sub R) d v hk)
    | tnt =>
      have hp' : PostF K H O Q E (if flat d then .rt d else .no) := hp
      by_cases hf : flat d = true
      · rw [if_pos hf] at hp'
        exact hp' v H' (ext R) (Den.step (sub R) d v (Den.flat R.mt d v hf (R.tnt hk)))
      · rw [if_neg hf] at hp'
        exact hp'.elim
    | fr =>
      obtain ⟨p, rfl, hO, h0, hc, _⟩ := hk
      cases d with
      | lst ds => exact fresh R hO h0 hc hp
      | _ => exact hp.elim
    | own i =>
      obtain ⟨e1, e2⟩ := hk
      obtain ⟨v', e3, p, ev, hO, h0, hc⟩ := R.slot _ _ e2
      rw [e1] at e3
      cases e3
      subst ev
      cases d with
      | lst ds => exact fresh R hO h0 hc hp
      | _ => exact hp.elim
end
/-- what a def promises, by its mirror -/
abbrev mF (n : Nat) (bs : List Bool) (m : VEnv → SRes) : List D → FR := fun ds => finF (m (startE n bs ds))
theorem fn_okV {P : Program} {w : World} {K : PySem.W.Frag} {mg : Str → Option Value} {base : Heap} {x qual : Str} {params : Arguments} {body : List Stmt} {scope : Scope} {f : Addr} {fd : FuncData} {N ps : List Str} {k : Nat} {bs : List Bool} {m : VEnv → SRes}
    (F : FunD K x qual params body scope [] [] f fd) (S : FnScope N ps scope) (hl : bs.length = ps.length)
    (hbody : ∀ (cdv : Value) (A : Around) (outer : List Env) (s : Shared) (H : Hp) (E : XK), Room k (A.deeper (envOfC qual scope s.heap.objs.size f cdv)) → VSs (cxOf (L2.CX P w) P w K mg base N qual scope f cdv A outer s H E) (fun c d _ H => E c d H) body m) :
    FnOk P w K mg base (L2.CX P w) (k + 1) f fd ps (spV K bs (mF N.length bs m)) := by
  refine F.ok S (fun vs H Q E h => h.1.trans hl) fun cdv A outer s H vs Q E hr h => ?_
  obtain ⟨hlen, O, ds, hm, ha, hp⟩ := h
  exact ⟨_, hbody cdv A outer s H E hr ⟨H, 0, none⟩ O (hx_calm rfl), startE N.length bs ds, O, start_rel rfl hm ha, fin_ok rfl hp⟩
theorem fn_len {bs : List Bool} {K : PySem.W.Frag} {F : List D → FR} {ps : List Str} (hl : bs.length = ps.length) : ∀ vs H Q E, spV K bs F vs H Q E → vs.length = ps.length := fun vs H Q E h => h.1.trans hl
/-- the law's own promise from its mirror -/
theorem law_sp {K : PySem.W.Frag} {F : List D → FR} {n : Nat} (h : ∀ ns : List Int, ns.length ≤ n → F [.scr ns] = .rt (.bl true)) (H : Hp) (a : Addr) (ns : List Int) (hl : ns.length ≤ n) (hO : Only H) (hS : SqL K H a (ns.map V.int)) :
    spV K [true] F [.ref a] H (fun v _ => v = .bl true) fun _ _ _ => False := by
  refine ⟨rfl, noA, [.scr ns], fun _ z => z.elim, ⟨.ref a, [], rfl, ?_, rfl⟩, ?_⟩
  · simp only [Den]
    refine ⟨a, rfl, ?_⟩
    rcases hS with (hS | ⟨o, hS⟩) | hS
    · rcases hO a with z | ⟨o, xs, z⟩
      · rw [hS] at z; cases z
      · rw [hS] at z; cases z
    · exact .inl ⟨fun z => z, o, hS⟩
    · exact .inr hS
  · rw [h ns hl]
    exact fun v H' _ hv => den_bl hv
theorem law_sp1 {K : PySem.W.Frag} {F : List D → FR} {ns : List Int} (h : F [.scr ns] = .rt (.bl true)) (H : Hp) (a : Addr) (hO : Only H) (hS : SqL K H a (ns.map V.int)) :
    spV K [true] F [.ref a] H (fun v _ => v = .bl true) fun _ _ _ => False := by
  refine ⟨rfl, noA, [.scr ns], fun _ z => z.elim, ⟨.ref a, [], rfl, ?_, rfl⟩, ?_⟩
  · simp only [Den]
    refine ⟨a, rfl, ?_⟩
    rcases hS with (hS | ⟨o, hS⟩) | hS
    · rcases hO a with z | ⟨o, xs, z⟩
      · rw [hS] at z; cases z
      · rw [hS] at z; cases z
    · exact .inl ⟨fun z => z, o, hS⟩
    · exact .inr hS
  · rw [h]
    exact fun v H' _ hv => den_bl hv
end Vi

set_option Elab.async false
set_option linter.all false
set_option maxRecDepth 100000
namespace Vi
open PySem PySem.Spec PyProof.Rows L2

theorem boot_ValueError : bootBuiltins "ValueError" = some (.type "ValueError") := by decide +kernel
theorem ru {k : Nat} {A : Around} (hr : Room k A) : A.units + 65 < cLine := by have := hr.un; omega
theorem ru64 {k : Nat} {A : Around} (hr : Room k A) : A.units + 64 < cLine := by have := hr.un; omega
abbrev ExcF (K : PySem.W.Frag) (x : Str) : Prop := PySem.W.excIn K (He.ga K x) He.veBase "ValueError.__new__" = true ∧ PySem.W.keepIn K (.ref (He.ga K x)) = true ∧ PySem.W.subIn K (.ref (He.ga K x)) (.type "BaseException") = some true ∧ PySem.W.typeIn K (.ref (He.ga K x)) = some (.type "type")
/-! ### a Hook with further facts -/
def hookX (n : Nat) (fa : List He.Fa) (fn : List He.DefD) (ex : PySem.W.Frag → Bool) : PySem.W.Hook where
  α := Bool × He.AlD
  obs := fun s => (ex (He.frG s.heap.get? (He.asD s.heap.get? n)), He.obsDG n fa fn s.heap.get?)
  val := fun _ => (true, He.valD fn)
  says := fun _ h => ∃ K : PySem.W.Frag, K.In h ∧ (He.SaysD fa fn K ∧ ex K = true)
  of := fun _ _ e => ⟨_, He.frG_in, congrArg (fun z : Bool × He.AlD => z.2) e, congrArg (fun z : Bool × He.AlD => z.1) e⟩
  keeps := fun _ _ _ ⟨K, hK, c⟩ k => ⟨K, PySem.W.Frag.In.keeps hK k, c⟩
def obX (n : Nat) (fa : List He.Fa) (fn : List He.DefD) (ex : PySem.W.Frag → Bool) (g : Addr → Option Obj) : Bool × He.AlD := (ex (He.frG g (He.asD g n)), He.obsDG n fa fn g)
theorem obX_eq {n : Nat} {fa : List He.Fa} {fn : List He.DefD} {ex : PySem.W.Frag → Bool} {g : Addr → Option Obj} {s : Shared} (h : ∀ a, g a = s.heap.get? a) : obX n fa fn ex g = (hookX n fa fn ex).obs s := by
  have e : g = s.heap.get? := funext h
  rw [e] <;> rfl
/-- what a walk leans on -/
structure Tx (fa : List He.Fa) (fn : List He.DefD) (ex : PySem.W.Frag → Bool) (K : PySem.W.Frag) (mg : Str → Option Value) : Prop where
  h : ∃ h : Heap, K.In h ∧ h.Ns mainGlobals mg
  c : He.SaysD fa fn K
  e : ex K = true
section
variable {fa : List He.Fa} {fn : List He.DefD} {ex : PySem.W.Frag → Bool} {K : PySem.W.Frag} {mg : Str → Option Value}
theorem Tx.glo (T : Tx fa fn ex K mg) (i : Nat) (x : Str) (h : fa[i]? = some (.glo x) := by rfl) : mg x = some (.ref (He.ga K x)) := let ⟨_, X, G⟩ := T.h; He.glo_ok X G (T.c.fact i h)
theorem Tx.free (T : Tx fa fn ex K mg) (i : Nat) (x : Str) (h : fa[i]? = some (.free x) := by rfl) : mg x = none := let ⟨_, X, G⟩ := T.h; He.free_ok X G (T.c.fact i h)
theorem Tx.exm (T : Tx fa fn ex K mg) (i : Nat) (x y : Str) (b : Bool) (h : fa[i]? = some (.exm x y b) := by rfl) : PySem.W.exmOne K (.ref (He.ga K x)) (.ref (He.ga K y)) = some b := He.exm_ok (T.c.fact i h)
theorem Tx.exc (T : Tx fa fn ex K mg) (i : Nat) (x : Str) (h : fa[i]? = some (.exc x) := by rfl) : PySem.W.excIn K (He.ga K x) He.veBase "ValueError.__new__" = true ∧ PySem.W.keepIn K (.ref (He.ga K x)) = true ∧ PySem.W.subIn K (.ref (He.ga K x)) (.type "BaseException") = some true ∧
    PySem.W.typeIn K (.ref (He.ga K x)) = some (.type "type") := He.exc_ok (T.c.fact i h)
theorem Tx.def_ (T : Tx fa fn ex K mg) (i : Nat) {d : He.DefD} (h : fn[i]? = some d := by rfl) : ∃ fd, FunD K d.name d.qual d.params d.body d.scope (d.dvs K) (d.kws K) (He.fAd K d.at_) fd := T.c.def_ i h
end
/-- the law's end, the script's bits told -/
theorem walk_end {l : PySem.W.OpenLaw} {n k : Nat} {q : Program} {loose : List Str} {XP : (Str → Option Value) → Heap → Prop} {YP : World → Heap → Prop} {d : DefRec} {x : Str}
    (hn : l.most = some n) (hn2 : n ≤ sizeLine) (hdf : d.params.defaults = []) (hr : Room k callerA)
    (F : ∀ (w : World) (mg : Str → Option Value) (fa : Addr) (h : Heap), YP w h → h.Ns mainGlobals mg → mg d.name = some (.ref fa) →
      ∃ (K : PySem.W.Frag) (fd : FuncData) (sp : Sp), K.In h ∧ (∀ (s : Shared) (u : Value), BindsTo s fd ⟨[u], []⟩ [(x, u)]) ∧
        (∀ (H : Hp) (a : Addr) (ns : List Int), ns.length ≤ n → (∀ z ∈ ns, Builtin.Int.intBits z ≤ 1048576) → Only H → SqL K H a (ns.map V.int) → sp [.ref a] H (fun v _ => v = .bl true) fun _ _ _ => False) ∧
        ∀ base : Heap, K.In base → base.Ns mainGlobals mg → FnOk l.prog w K mg base (L2.CX l.prog w) k fa fd [x] sp) :
    PySem.W.WalkO q loose XP YP l.row.toRowW d [] (fun f vs => PySem.call f vs) := by
  refine Att.attach_callB hn hdf fun w s₀ s₁ mg mb fa o pm cd doc a vs ns G Y ho hd hcd hmg hobj hints hlen hbits hg => ?_
  obtain ⟨K, fd, sp, KX, hb, hsp, hF⟩ := F w mg fa _ Y G.T.g hmg
  exact law_call KX G.T.g G.T.b G.T.builtins G.T.nolimit hg hobj hints (Nat.le_trans hlen hn2) hr hF hb (fun H hO hS => hsp H a ns hlen hbits hO hS) fun H e s' ⟨_, _, _, _, _, _, _, _, _, _, _, _, z⟩ => z
/-! further facts, decided -/
/-- a name of the module for a built-in function -/
def xBf (K : PySem.W.Frag) (x : Str) (id : String) : Bool := He.eqO (PySem.W.nsIn K mainGlobals x) (some (some (.builtin id)))
theorem xBf_ok {K : PySem.W.Frag} {x : Str} {id : String} {mg : Str → Option Value} (h : xBf K x id = true) (T : ∃ h : Heap, K.In h ∧ h.Ns mainGlobals mg) : mg x = some (.builtin id) := let ⟨_, X, G⟩ := T; PySem.W.mg_of X G (He.eqO_ok h)
/-- a tuple of the module -/
theorem kt_of {K : PySem.W.Frag} {x : Str} {vs : List He.Dv} (h : He.tupB K x vs = true) : KT K (He.ga K x) (vs.map (He.Dv.v K)) := by
  have q := He.tupB_ok h (fun _ => none)
  rcases q with (q | ⟨o, q⟩) | q
  · cases q
  · cases q
  · exact q
theorem glo_tup {K : PySem.W.Frag} {x : Str} {vs : List He.Dv} {ds : List D} {mg : Str → Option Value} (h : He.tupB K x vs = true) (hm : mg x = some (.ref (He.ga K x))) (hd : ∀ O H, DenL K O H ds (vs.map (He.Dv.v K))) : ∃ u v, mg x = some u ∧ RelV v u ∧ ∀ O H, Den K O H (.tup ds) v :=
  ⟨_, .ref (He.ga K x), hm, rfl, fun O H => by simp only [Den]; exact ⟨_, _, rfl, .inr (kt_of h), hd O H⟩⟩
theorem glo_cls {K : PySem.W.Frag} {x : Str} {mg : Str → Option Value} (hm : mg x = some (.ref (He.ga K x))) : ∃ u v, mg x = some u ∧ RelV v u ∧ ∀ O H, Den K O H (.cls x) v := ⟨_, .ref (He.ga K x), hm, rfl, fun O H => by simp only [Den]⟩
/-- what isinstance asks of an exception's class -/
def xEx (K : PySem.W.Frag) (x : Str) : Bool := decide (PySem.W.findIn K (.ref (He.ga K x)) "__getattribute__" = some (some (.builtin "BaseException.__getattribute__"))) && (decide (PySem.W.findIn K (.ref (He.ga K x)) "__getattr__" = some none) &&
  (decide (PySem.W.subIn K (.ref (He.ga K x)) (.type "BaseException") = some true) && (PySem.W.hasDictIn K (He.ga K x) && (decide (PySem.W.findIn K (.ref (He.ga K x)) "__class__" = some (some (.builtin "object.__class__"))) &&
  (decide (PySem.W.specialIn K (.builtin "object.__class__") "__get__" = some (some (.builtin "getset_descriptor.__get__"))) && (decide (PySem.W.takesIn K (.builtin "object.__class__") = some true) && decide (PySem.W.mroIn K (He.ga K x) (.type "object") = some true)))))))
theorem xEx_ok {K : PySem.W.Frag} {x : Str} (h : xEx K x = true) : ExcC K (He.ga K x) := by
  simp only [xEx, Bool.and_eq_true, decide_eq_true_eq] at h
  obtain ⟨h1, h2, h3, h4, h5, h6, h7, h8⟩ := h
  exact ⟨h1, h2, h3, h4, h5, h6, h7, h8⟩
/-- isinstance of an exception of x: y, a class of the module or a built-in one -/
def xKit (K : PySem.W.Frag) (x : Str) (y : D) (b : Bool) : Bool := decide (PySem.W.kitOne K (.ref (He.ga K x)) (clV K y) = some b)
theorem xKit_ok {K : PySem.W.Frag} {x : Str} {y : D} {b : Bool} (h : xKit K x y b = true) : PySem.W.kitOne K (.ref (He.ga K x)) (clV K y) = some b := of_decide_eq_true h
/-- X('..'), X a class of the module over ValueError -/
theorem mk_own {X : Cx} {x m : Str} {j : Nat} {p p2 pos : Pos} (h : PySem.W.excIn X.K (He.ga X.K x) He.veBase "ValueError.__new__" = true ∧ PySem.W.keepIn X.K (.ref (He.ga X.K x)) = true ∧ PySem.W.subIn X.K (.ref (He.ga X.K x)) (.type "BaseException") = some true ∧ PySem.W.typeIn X.K (.ref (He.ga X.K x)) = some (.type "type"))
    (hm : X.mg x = some (.ref (He.ga X.K x))) (hg : Gl X x) (hdb : (x == ("__debug__" : Str)) = false := by decide) : PMk X (.Call (.Name x p) [.Constant (.str m) j p2] [] pos) (fun _ H Q => Q (.ref (He.ga X.K x)) none H) :=
  pmk_own PySem.F.excBase_ValueError h.1 hm h.2.1 (raises_own h.2.2.1 h.2.2.2) hg hdb
end Vi

set_option Elab.async false
set_option linter.all false
set_option maxRecDepth 100000
namespace Vi
open PySem PySem.Spec PyProof.Rows L2

/-! isinstance(e, (C1, C2, ..)) in a suite -/
def rIsVs (K : PySem.W.Frag) (a : Addr) (oe : Obj) : List V → Hp → VK → Prop := fun xs H Q => ∃ (Dc tp : Addr) (cs : List V) (us : List Value) (b : Bool), xs = [.ref a, .ref tp] ∧ ExcC K Dc ∧ Zc (.ref Dc) none oe ∧ (∃ vs, oe.data = .fields vs) ∧ H tp = some (.tup cs) ∧ Paired ClsV cs us ∧ PySem.W.kitAny K (.ref Dc) us = some b ∧ Q (.bl b) H
theorem call_isVs {X : Cx} {a : Addr} {oe : Obj} {pn : List (Addr × Obj)} : CallR (X.suite a ((a, oe) :: pn)) (.builtin "isinstance") (rIsVs X.K a oe) := by
  intro pins s σ H xs us Q I r h
  obtain ⟨Dc, tp, cs, ws, b, rfl, C, hz, hf, hT, k, e, q⟩ := h
  obtain ⟨u1, u2, rfl, r1, r2⟩ := vals2 r
  cases (show u1 = Value.ref a from r1)
  cases (show u2 = Value.ref tp from r2)
  obtain ⟨hget, _⟩ := I.pin (a, oe) (List.mem_append.mpr (.inl List.mem_cons_self))
  obtain ⟨vs, hv⟩ := hf
  have J : PySem.W.InstAt s.heap a oe Dc none := by
    obtain ⟨oc, od, oda, osl⟩ := oe
    obtain ⟨h1, h2⟩ := hz
    dsimp only at h1 h2 hv
    subst h1 h2 hv
    exact ⟨hget, rfl, rfl, trivial⟩
  obtain ⟨_, its, rv, o, h1, h2, n, h3⟩ := (show ObjOk X.prog X.w H s.heap tp (.tup cs) from I.hok tp _ hT)
  have e3 := ClsV.all k rv
  subst e3
  obtain ⟨oc, od, dt, sl⟩ := o
  simp only at h2 h3
  subst h2 h3
  exact PySem.W.kia_tup (PySem.W.handS_kitx_exc C.hg C.hk C.hs C.hd C.ha C.hn C.ht C.hm) I.kIn J h1 e (fun z => nomatch z) fun tk => ⟨.bl b, H, I.kept (t' := tk) fun _ _ z => z, rfl, q⟩
def anyTb (tb : Str → D → Option Bool) (nm : Str) : List D → Option Bool
  | [] => some false
  | d :: ds => (match oneC d with
    | true => (match tb nm d, anyTb tb nm ds with
      | some true, some _ => some true
      | some false, some b => some b
      | _, _ => none)
    | false => none)
theorem anyTb_ok {K : PySem.W.Frag} {tb : Str → D → Option Bool} (ht : ExTOk K tb) {nm : Str} {O : Av} {H : Hp} : ∀ {ds : List D} {b : Bool} {cs : List V}, anyTb tb nm ds = some b → DenL K O H ds cs → ∃ us, Paired ClsV cs us ∧ PySem.W.kitAny K (.ref (He.ga K nm)) us = some b
  | [], b, cs, h, hd => by
    cases h
    rw [hd.nil_eq]
    exact ⟨[], .nil, rfl⟩
  | d :: ds, b, cs, h, hd => by
    obtain ⟨c, r, rfl, h1, h2⟩ := hd.uncons
    unfold anyTb at h
    split at h
    · rename_i ho
      split at h
      · rename_i b' e1 e2
        cases h
        obtain ⟨us, p, q⟩ := anyTb_ok ht e2 h2
        refine ⟨clV K d :: us, .cons ?_ p, kitAny_cons (ht nm d true e1).2 (fun z => by cases z) fun _ => rfl⟩
        cases d with
        | cls y => simp only [Den] at h1; subst h1; exact .own _
        | ty t => simp only [Den] at h1; subst h1; exact .ty _
        | _ => cases ho
      · rename_i b' e1 e2
        cases h
        obtain ⟨us, p, q⟩ := anyTb_ok ht e2 h2
        refine ⟨clV K d :: us, .cons ?_ p, kitAny_cons (ht nm d false e1).2 (fun _ => q) fun z => by cases z⟩
        cases d with
        | cls y => simp only [Den] at h1; subst h1; exact .own _
        | ty t => simp only [Den] at h1; subst h1; exact .ty _
        | _ => cases ho
      · cases h
    · cases h
theorem anyTb_ex {K : PySem.W.Frag} {tb : Str → D → Option Bool} (ht : ExTOk K tb) {nm : Str} {d : D} {ds : List D} {b : Bool} (h : anyTb tb nm (d :: ds) = some b) : ExcC K (He.ga K nm) := by
  unfold anyTb at h
  split at h
  · split at h
    · rename_i e1 e2; exact (ht nm d true e1).1
    · rename_i e1 e2; exact (ht nm d false e1).1
    · cases h
  · cases h
def vIsEs (i : Nat) (tb : Str → D → Option Bool) (g : VEnv → RA) : VEnv → RE := fun env => match env[i]? with
  | some (some (.exn, .cls nm)) => (match g env with
    | .ok l e => (match shs l with
      | some (d :: ds) => (match anyTb tb nm (d :: ds), decide ((d :: ds).length ≤ lineN) with
        | some b, true => .ok .sh (.bl b) e
        | _, _ => .no)
      | _ => .no)
    | .ex x e => .ex x e
    | .no => .no)
  | _ => .no
theorem ve_isEs {X : Cx} {W : WX} {i kk : Nat} {n : Str} {es : List Expr} {pe' pn' pos tpos : Pos} {tb : Str → D → Option Bool} {g : VEnv → RA} {a : Addr} {oe : Obj} {pn : List (Addr × Obj)} (ht : ExTOk X.K tb) (hg : Gl X "isinstance") (hm : X.mg "isinstance" = none) (hi : X.N[i]? = some n) (hv : Vis X.env.scope n) (hb : VA (X.suite a ((a, oe) :: pn)) W es g)
    (hd : (n == ("__debug__" : Str)) = false := by decide) (hcd : (n == ("__classdict__" : Str)) = false := by decide)
    (hs1 : starEach [.Name n pe', .Tuple es kk tpos] X.env = (false, eval (.Name n pe') X.env) :: starEach [.Tuple es kk tpos] X.env := by rfl) (hs2 : starEach [.Tuple es kk tpos] X.env = (false, eval (.Tuple es kk tpos) X.env) :: starEach [] X.env := by rfl) (hpl : (backTo pos (starEach [.Tuple es kk tpos] X.env)).any (·.1) = false := by rfl) :
    VE (X.suite a ((a, oe) :: pn)) W (.Call (.Name "isinstance" pn') [.Name n pe', .Tuple es kk tpos] [] pos) (vIsEs i tb g) := fun H0 O0 hx => by
  refine PE.imp (pe_callB (X := X.suite a ((a, oe) :: pn)) call_isVs hg hm PyProof.Rows.boot_isinstance (pa_cons (X := X.suite a ((a, oe) :: pn)) (pe_var hi hv hd hcd) (pa_cons (pe_tup (hb H0 O0 hx)) pa_nil hs2) hs1) (by decide) (by decide) hs1 hpl) fun σ H Q ⟨env, O, R, post⟩ => ?_
  unfold vIsEs at post
  split at post
  · rename_i nm e1
    obtain ⟨v, e2, ev, oe', h1, h2, h3, h4⟩ := R.slot i _ e1
    subst ev
    obtain ⟨hxa, hxo⟩ := hx rfl a oe pn rfl rfl
    rw [hxo] at h1
    cases h1
    refine ⟨_, e2, env, O, R, ?_⟩
    cases q0 : g env with
    | no => rw [q0] at post; exact post.elim
    | ex x e => rw [q0] at post; exact post
    | ok l e =>
      rw [q0] at post
      dsimp only at post
      intro vs H1 O1 R1 s1 hl
      split at post
      · rename_i d ds q1
        have hdn := shs_ok hl q1
        split at post
        · rename_i b ea el
          refine ⟨by rw [← hdn.length, ← lineN_eq]; exact of_decide_eq_true el, fun q hq => ?_⟩
          obtain ⟨us, p, hka⟩ := anyTb_ok ht ea hdn
          have k : ∀ a o, H1 a = some o → upd H1 q (.tup vs) a = some o := fun a o z => by rw [upd_ne (ne_of_none z hq)]; exact z
          refine ⟨_, q, vs, us, b, by rw [hxa], anyTb_ex ht ea, ⟨h2, h3⟩, h4, upd_same, p, hka, ?_⟩
          exact post _ _ O1 (R1.kept k) (s1.trans ⟨k, fun _ z => .inl z⟩) (by show Den _ _ _ _ _; simp only [Den])
        · exact post.elim
      · exact post.elim
  · exact post.elim
/-! slices -/
inductive RO where
  | ok (o : Option Int) (e : VEnv)
  | ex (x : Xn) (e : VEnv)
  | no
def PostO (K : PySem.W.Frag) (H0 : H0T) (O0 : Av) (W : WX) (σ : L2.St) (H : Hp) (O : Av) (Q : Option Int → Hp → Prop) : RO → Prop
  | .ok o e => ∀ (H' : Hp) (O' : Av), Rel K H0 O0 e σ H' O' → StepE O H O' H' → Q o H'
  | .ex x e => ∀ (H' : Hp) (O' : Av) (c : Value) (dd : Option Addr), Rel K H0 O0 e σ H' O' → StepE O H O' H' → XOk K O' H' x c dd → W c dd σ H'
  | .no => False
def tVO (K : PySem.W.Frag) (H0 : H0T) (O0 : Av) (W : WX) (f : VEnv → RO) : TO := fun σ H Q => ∃ env O, Rel K H0 O0 env σ H O ∧ PostO K H0 O0 W σ H O Q (f env)
def VO (X : Cx) (W : WX) (e : Option Expr) (f : VEnv → RO) : Prop := ∀ (H0 : H0T) (O0 : Av), HX X H0 → PO X e (tVO X.K H0 O0 W f)
theorem PO.imp {X : Cx} {e : Option Expr} {t t' : TO} (h : PO X e t) (i : ∀ σ H Q, t' σ H Q → t σ H Q) : PO X e t' := ⟨fun pins s σ H Q I q => h.run pins s σ H Q I (i σ H Q q)⟩
def voNone : VEnv → RO := fun e => .ok none e
def voSome (fa : VEnv → RE) : VEnv → RO := fun e => match (fa e).rel with
  | .ok _ (.int i) e => .ok (some i) e
  | .ex x e => .ex x e
  | _ => .no
section
variable {X : Cx} {W : WX} {a : Expr} {lo hi : Option Expr} {pos p2 : Pos} {fa : VEnv → RE} {fl fu : VEnv → RO}
theorem vo_none : VO X W none voNone := fun H0 O0 hx => PO.imp po_none fun σ H Q ⟨env, O, R, post⟩ => post H O R (StepE.refl _ _)
theorem vo_some (h : VE X W a fa) : VO X W (some a) (voSome fa) := fun H0 O0 hx => PO.imp (po_some (h H0 O0 hx)) fun σ H Q ⟨env, O, R, post⟩ => by
  refine ⟨env, O, R, Post_rel ?_⟩
  unfold voSome at post
  cases q : (fa env).rel with
  | no => rw [q] at post; exact post.elim
  | ex x e => rw [q] at post; exact post
  | ok k d e =>
    rw [q] at post
    cases d with
    | int i =>
      intro v H' O' R' s' hk
      have hd := (Held.of R' hk (nofr_rel q)).den R'
      exact ⟨i, den_int hd, post H' O' R' s'⟩
    | _ => exact post.elim
def cutD (xs : List D) (lo hi : Option Int) : List D := (xs.drop (HT.sIx xs.length 0 lo)).take (HT.sIx xs.length xs.length hi - HT.sIx xs.length 0 lo)
theorem DenL.cut {K : PySem.W.Frag} {O : Av} {H : Hp} {ds : List D} {xs : List V} (h : DenL K O H ds xs) (lo hi : Option Int) : DenL K O H (cutD ds lo hi) (cutV xs lo hi) := by
  unfold cutD cutV
  rw [h.length]
  exact (h.drop _).take _
def gSl (d : D) (lo hi : Option Int) : OR := match d with
  | .lst ds => .fl (cutD ds lo hi)
  | .scr ns => .fl (cutD (ns.map D.int) lo hi)
  | .tup ds => if HT.sIx ds.length 0 lo = 0 ∧ HT.sIx ds.length ds.length hi = ds.length then .sc (.tup ds) else .tp (cutD ds lo hi)
  | .str s => .when (decide (s.length ≤ lineN)) (.sc (.str (cutS s lo hi)))
  | _ => .no
def RO.bind (r : RO) (g : Option Int → VEnv → RE) : RE := match r with
  | .ok o e => g o e
  | .ex x e => .ex x e
  | .no => .no
theorem PostO_bind {K : PySem.W.Frag} {H0 : H0T} {H : Hp} {O0 O : Av} {σ : L2.St} {Q : VK} {g : Option Int → VEnv → RE} {R : Option Int → Hp → Prop} {r : RO} (h : PostE K H0 O0 W σ H O Q (r.bind g))
    (hr : ∀ o e H1 O1, Rel K H0 O0 e σ H1 O1 → StepE O H O1 H1 → PostE K H0 O0 W σ H1 O1 Q (g o e) → R o H1) : PostO K H0 O0 W σ H O R r := by
  cases r with
  | ok o e => exact fun H' O' R' s => hr o e H' O' R' s (PostE.from s h)
  | ex x e => exact h
  | no => exact h
def vSl (fa : VEnv → RE) (fl fu : VEnv → RO) : VEnv → RE := fun env => (fa env).rel.bind fun k d e => (fl e).bind fun lo e1 => (fu e1).bind fun hi e2 => (match argA k d with
  | true => (gSl d lo hi).fin e2
  | false => .no)
def rSlAll (K : PySem.W.Frag) : V → Option Int → Option Int → Hp → VK → Prop := fun x lo hi H Q => rSlL K x lo hi H Q ∨ rSlA K x lo hi H Q ∨ rSlS x lo hi H Q
theorem sl_all : SlR X (rSlAll X.K) := sl_list.or (sl_tupA.or sl_str)
theorem ve_sl (ha : VE X W a fa) (hl : VO X W lo fl) (hu : VO X W hi fu) : VE X W (.Subscript a (.Slice lo hi none p2) pos) (vSl fa fl fu) := fun H0 O0 hx => PE.imp (pe_slice sl_all (ha H0 O0 hx) (hl H0 O0 hx) (hu H0 O0 hx)) fun σ H Q ⟨env, O, R, post⟩ => by
  refine ⟨env, O, R, Post_rbind post fun k d e v H1 O1 R1 s1 hk p1 => ⟨e, O1, R1, PostO_bind p1 fun lo' e1 H2 O2 R2 s2 p2 => ⟨e1, O2, R2, PostO_bind p2 fun hi' e2 H3 O3 R3 s3 p3 => ?_⟩⟩⟩
  cases q : argA k d with
  | false => rw [q] at p3; exact p3.elim
  | true =>
    rw [q] at p3
    dsimp only at p3
    have hh := argA_ok (Held.step (s2.trans s3) hk) R3 q
    cases d with
    | lst ds =>
      obtain ⟨a', xs, rfl, h1, h2⟩ := aLst hh
      exact .inl ⟨a', xs, rfl, SqL.of h1, fun q hq => Post_new_list p3 R3 hq (h2.cut lo' hi')⟩
    | scr ns =>
      obtain ⟨a', rfl, h1⟩ := aScr hh
      exact .inl ⟨a', _, rfl, h1, fun q hq => Post_new_list p3 R3 hq ((denL_ints ns).cut lo' hi')⟩
    | tup ds =>
      obtain ⟨a', xs, rfl, h1, h2⟩ := aTup hh
      refine .inr (.inl ⟨a', xs, rfl, sqT_of h1, fun hw => ?_, fun hw q hq => ?_⟩)
      · rw [← h2.length] at hw
        unfold gSl at p3
        dsimp only at p3
        rw [if_pos hw] at p3
        exact Post_sc p3 R3 (tup_den R3 h1 h2)
      · rw [← h2.length] at hw
        unfold gSl at p3
        dsimp only at p3
        rw [if_neg hw] at p3
        exact Post_new_tup p3 R3 hq (h2.cut lo' hi')
    | str s =>
      obtain ⟨hl', p3⟩ := Post_when p3
      exact .inr (.inr ⟨s, aStr hh, len_ok hl', Post_sc p3 R3 (by simp only [Den])⟩)
    | _ => exact p3.elim
end
end Vi

set_option Elab.async false
set_option linter.all false
set_option maxRecDepth 100000
namespace Vi
open PySem PySem.Spec PyProof.Rows L2

/-! ### evaluation of mirrors: rules for simp -/
section
variable {env e : VEnv} {i j : Int} {d d1 d2 : D} {x : Xn} {k : Kd} {f g : VEnv → SRes} {fa fb fc : VEnv → RE} {r : SRes}
@[simp] theorem SRes.bind_nx : SRes.bind (.nx e) g = g e := rfl
@[simp] theorem SRes.bind_rt : SRes.bind (.rt k d e) g = .rt k d e := rfl
@[simp] theorem SRes.bind_ex : SRes.bind (.ex x e) g = .ex x e := rfl
@[simp] theorem SRes.bind_bk : SRes.bind (.bk e) g = .bk e := rfl
@[simp] theorem SRes.bind_ct : SRes.bind (.ct e) g = .ct e := rfl
@[simp] theorem RE.rel_sh : RE.rel (.ok .sh d e) = .ok .sh d e := rfl
@[simp] theorem RE.rel_tnt : RE.rel (.ok .tnt d e) = .ok .tnt d e := rfl
@[simp] theorem RE.rel_fr : RE.rel (.ok .fr d e) = .ok .sh d e := rfl
@[simp] theorem RE.rel_own {n : Nat} : RE.rel (.ok (.own n) d e) = .ok (.own n) d e := rfl
@[simp] theorem RE.rel_ex : RE.rel (.ex x e) = .ex x e := rfl
@[simp] theorem RE.shr_sh : RE.shr (.ok .sh d e) = .ok .sh d e := rfl
@[simp] theorem RE.shr_fr : RE.shr (.ok .fr d e) = .ok .sh d e := rfl
@[simp] theorem RE.shr_own {n : Nat} : RE.shr (.ok (.own n) d e) = .ok .sh d (e.set n (some (.sh, d))) := rfl
@[simp] theorem RE.shr_tnt : RE.shr (.ok .tnt d e) = if flat d then .ok .sh d e else .no := rfl
@[simp] theorem RE.shr_ex : RE.shr (.ex x e) = .ex x e := rfl
@[simp] theorem RE.itr_sh : RE.itr (.ok .sh d e) = .ok .sh d e := rfl
@[simp] theorem RE.itr_fr : RE.itr (.ok .fr d e) = .ok .sh d e := rfl
@[simp] theorem RE.itr_own {n : Nat} : RE.itr (.ok (.own n) d e) = .ok .sh d (e.set n (some (.sh, d))) := rfl
@[simp] theorem RE.itr_tnt : RE.itr (.ok .tnt d e) = .ok .tnt d e := rfl
@[simp] theorem RE.itr_ex : RE.itr (.ex x e) = .ex x e := rfl
@[simp] theorem RE.bind_ok {G : Kd → D → VEnv → RE} : RE.bind (.ok k d e) G = G k d e := rfl
@[simp] theorem RE.bind_ex {G : Kd → D → VEnv → RE} : RE.bind (.ex x e) G = .ex x e := rfl
@[simp] theorem RE.toS_ok {G : Kd → D → VEnv → SRes} : RE.toS (.ok k d e) G = G k d e := rfl
@[simp] theorem RE.toS_ex {G : Kd → D → VEnv → SRes} : RE.toS (.ex x e) G = .ex x e := rfl
@[simp] theorem RT.toS_ok {b : Bool} {G : Bool → VEnv → SRes} : RT.toS (.ok b e) G = G b e := rfl
@[simp] theorem RT.toS_ex {G : Bool → VEnv → SRes} : RT.toS (.ex x e) G = .ex x e := rfl
@[simp] theorem RT.bind_ok {b : Bool} {G : Bool → VEnv → RT} : RT.bind (.ok b e) G = G b e := rfl
@[simp] theorem RT.bind_ex {G : Bool → VEnv → RT} : RT.bind (.ex x e) G = .ex x e := rfl
@[simp] theorem RA.toS_ok {l : List (Kd × D)} {G : List (Kd × D) → VEnv → SRes} : RA.toS (.ok l e) G = G l e := rfl
@[simp] theorem RA.toS_ex {G : List (Kd × D) → VEnv → SRes} : RA.toS (.ex x e) G = .ex x e := rfl
@[simp] theorem RO.bind_ok {o : Option Int} {G : Option Int → VEnv → RE} : RO.bind (.ok o e) G = G o e := rfl
@[simp] theorem FR.fin_rt : FR.fin (.rt d) e = .ok .sh d e := rfl
@[simp] theorem FR.fin_fr {ds : List D} : FR.fin (.fr ds) e = .ok .fr (.lst ds) e := rfl
@[simp] theorem FR.fin_ex : FR.fin (.ex x) e = .ex x e := rfl
@[simp] theorem OR.fin_sc : OR.fin (.sc d) e = .ok .sh d e := rfl
@[simp] theorem OR.fin_fl {ds : List D} : OR.fin (.fl ds) e = .ok .fr (.lst ds) e := rfl
@[simp] theorem OR.fin_tp {ds : List D} : OR.fin (.tp ds) e = .ok .sh (.tup ds) e := rfl
@[simp] theorem OR.when_true {o : OR} : OR.when true o = o := rfl
end

end Vi

set_option Elab.async false
set_option linter.all false
set_option maxRecDepth 100000
namespace Vi
open PySem PySem.Spec PyProof.Rows L2

/-! ### == of data -/
mutual
theorem eqv_self : ∀ d : D, PyData.eqv (py d) (py d) = true
  | .non => by simp [py, PyData.eqv]
  | .bl b => by simp [py, PyData.eqv]
  | .int i => by simp [py, PyData.eqv]
  | .str s => by simp [py, PyData.eqv]
  | .opq _ => by simp [py, PyData.eqv]
  | .cls _ => by simp [py, PyData.eqv]
  | .ty _ => by simp [py, PyData.eqv]
  | .obj _ _ _ => by simp [py, PyData.eqv]
  | .scr ns => by
    simp only [py, PyData.eqv]
    exact eqvN_self ns
  | .lst ds => by
    simp only [py, PyData.eqv]
    exact eqvL_self ds
  | .tup ds => by
    simp only [py, PyData.eqv]
    exact eqvL_self ds
theorem eqvL_self : ∀ ds : List D, PyData.eqvAll (pyL ds) (pyL ds) = true
  | [] => by simp [pyL, PyData.eqvAll]
  | d :: ds => by
    simp only [pyL, PyData.eqvAll, Bool.and_eq_true]
    exact ⟨eqv_self d, eqvL_self ds⟩
theorem eqvN_self : ∀ ns : List Int, PyData.eqvAll (ns.map PyData.int) (ns.map PyData.int) = true
  | [] => by simp [PyData.eqvAll]
  | n :: ns => by
    simp only [List.map_cons, PyData.eqvAll, Bool.and_eq_true]
    exact ⟨by simp [PyData.eqv], eqvN_self ns⟩
end
/-- data that == may ask -/
def okd (d : D) : Bool := plain d && SeqAt.shaped (py d)
theorem eqD_self {d : D} (h : okd d = true) : eqD d d = some (.bl true) := by
  unfold okd at h
  simp only [Bool.and_eq_true] at h
  simp [eqD, h.1, h.2, eqv_self]
theorem neD_self {d : D} (h : okd d = true) : neD d d = some (.bl false) := by
  unfold okd at h
  simp only [Bool.and_eq_true] at h
  simp [neD, h.1, h.2, eqv_self]
theorem shaped_int (i : Int) : SeqAt.shaped (.int i) = true := by simp [SeqAt.shaped, PyData.canLay0, PyData.depth]
@[simp] theorem eqD_int (a b : Int) : eqD (.int a) (.int b) = some (.bl (decide (a = b))) := by
  simp [eqD, plain, py, shaped_int, PyData.eqv]
  by_cases h : a = b <;> simp [h]
@[simp] theorem neD_int (a b : Int) : neD (.int a) (.int b) = some (.bl (!decide (a = b))) := by
  simp [neD, plain, py, shaped_int, PyData.eqv]
  by_cases h : a = b <;> simp [h]
@[simp] theorem eqD_bb (a b : Bool) : eqD (.bl a) (.bl b) = some (.bl (decide (a = b))) := by
  cases a <;> cases b <;> simp [eqD, Vi.plain, py, SeqAt.shaped, PyData.canLay0, PyData.depth, PyData.eqv]
@[simp] theorem neD_bb (a b : Bool) : neD (.bl a) (.bl b) = some (.bl (!decide (a = b))) := by
  cases a <;> cases b <;> simp [neD, Vi.plain, py, SeqAt.shaped, PyData.canLay0, PyData.depth, PyData.eqv]
theorem shaped_pair (a b : Int) : SeqAt.shaped (.tuple [.int a, .int b]) = true := by simp [SeqAt.shaped, PyData.canLay0, PyData.canLayAll0, PyData.depth, PyData.depthAll]
@[simp] theorem eqD_pair (a b c d : Int) : eqD (.tup [.int a, .int b]) (.tup [.int c, .int d]) = some (.bl (decide (a = c) && decide (b = d))) := by
  simp [eqD, plain, plainL, py, pyL, shaped_pair, PyData.eqv, PyData.eqvAll]
  by_cases h : a = c <;> by_cases h' : b = d <;> simp [h, h']
@[simp] theorem neD_pair (a b c d : Int) : neD (.tup [.int a, .int b]) (.tup [.int c, .int d]) = some (.bl (!(decide (a = c) && decide (b = d)))) := by
  simp [neD, plain, plainL, py, pyL, shaped_pair, PyData.eqv, PyData.eqvAll]
  by_cases h : a = c <;> by_cases h' : b = d <;> simp [h, h']
/-- numbers, pairs of numbers, lists of such -/
def flatN : D → Bool
  | .int _ => true
  | .tup [.int _, .int _] => true
  | _ => false
theorem flatN_ok {d : D} (h : flatN d = true) : plain d = true ∧ (py d).canLay0 = true ∧ (py d).depth ≤ 1 := by
  unfold flatN at h
  split at h
  · simp [plain, py, PyData.canLay0, PyData.depth]
  · simp [plain, plainL, py, pyL, PyData.canLay0, PyData.canLayAll0, PyData.depth, PyData.depthAll]
  · cases h
theorem flatNL_ok : ∀ {ds : List D}, ds.all flatN = true → plainL ds = true ∧ PyData.canLayAll0 (pyL ds) = true ∧ PyData.depthAll (pyL ds) ≤ 1
  | [], _ => by simp [plainL, pyL, PyData.canLayAll0, PyData.depthAll]
  | d :: ds, h => by
    simp only [List.all_cons, Bool.and_eq_true] at h
    obtain ⟨h1, h2, h3⟩ := flatN_ok h.1
    obtain ⟨g1, g2, g3⟩ := flatNL_ok h.2
    simp only [plainL, pyL, PyData.canLayAll0, PyData.depthAll, h1, g1, h2, g2, Bool.and_self, true_and]
    omega
theorem okd_lists {xs ys : List D} (hx : xs.all flatN = true) (hy : ys.all flatN = true) : okd (.lst [.lst xs, .lst ys]) = true := by
  obtain ⟨h1, h2, h3⟩ := flatNL_ok hx
  obtain ⟨g1, g2, g3⟩ := flatNL_ok hy
  simp only [okd, plain, plainL, py, pyL, SeqAt.shaped, PyData.canLay0, PyData.canLayAll0, PyData.depth, PyData.depthAll, h1, g1, h2, g2, Bool.and_self, Bool.true_and, decide_eq_true_eq]
  omega
theorem okd_int {i : Int} : okd (.int i) = true := by simp [okd, plain, py, shaped_int]
theorem okd_pair {i j : Int} : okd (.tup [.int i, .int j]) = true := by simp [okd, plain, plainL, py, pyL, shaped_pair]
/-! ### sizes -/
/-- less than 2 ^ k in size -/
def Bt (k : Nat) (x : Int) : Prop := x.natAbs < 2 ^ k
theorem Bt.mono {k l : Nat} {x : Int} (h : Bt k x) (hl : k ≤ l) : Bt l x := Nat.lt_of_lt_of_le h (Nat.pow_le_pow_right (by decide) hl)
theorem Bt.mul {k l : Nat} {x y : Int} (h : Bt k x) (h' : Bt l y) : Bt (k + l) (x * y) := by
  unfold Bt at *
  rw [Int.natAbs_mul, Nat.pow_add]
  exact Nat.mul_lt_mul'' h h'
theorem Bt.add {k : Nat} {x y : Int} (h : Bt k x) (h' : Bt k y) : Bt (k + 1) (x + y) := by
  unfold Bt at *
  have := Int.natAbs_add_le x y
  rw [Nat.pow_succ]
  omega
theorem Bt.neg {k : Nat} {x : Int} (h : Bt k x) : Bt k (-x) := by
  unfold Bt at *
  rw [Int.natAbs_neg]
  exact h
theorem Bt.sub {k : Nat} {x y : Int} (h : Bt k x) (h' : Bt k y) : Bt (k + 1) (x - y) := by
  rw [Int.sub_eq_add_neg]
  exact h.add h'.neg
theorem Bt.log {k : Nat} {x : Int} (h : Bt k x) : x.natAbs.log2 < k + 1 := by
  by_cases z : x.natAbs = 0
  · rw [z]
    have : Nat.log2 0 = 0 := by decide
    omega
  · exact Nat.lt_succ_of_lt ((Nat.log2_lt z).mpr h)
theorem Bt.mulOk {k l : Nat} {x y : Int} (h : Bt k x) (h' : Bt l y) (hk : k + l < 90000000) : x.natAbs.log2 + y.natAbs.log2 < 100000000 := by
  have := h.log
  have := h'.log
  omega
theorem Bt.of {k : Nat} {x : Int} (a : Int) (h1 : -a ≤ x) (h2 : x ≤ a) (h3 : a.natAbs < 2 ^ k) : Bt k x := by
  unfold Bt
  omega
theorem viRng1_ok {g : VEnv → RA} {env e : VEnv} {k : Kd} {j : Int} (hg : g env = .ok [(k, .int j)] e) (hj : smallI j = true) : viRng1 g env = .ok .sh (rangeL 0 j.toNat) e := by
  unfold viRng1
  rw [hg]
  show (match smallI j with | true => RI.ok .sh (rangeL 0 j.toNat) e | false => .no) = _
  rw [hj]
theorem viRng2_ok {g : VEnv → RA} {env e : VEnv} {k k' : Kd} {i j : Int} (hg : g env = .ok [(k, .int i), (k', .int j)] e) (hi : smallI i = true) (hj : smallI j = true) : viRng2 g env = .ok .sh (rangeL i (j - i).toNat) e := by
  unfold viRng2
  rw [hg]
  show (match smallI i && smallI j with | true => RI.ok .sh (rangeL i (j - i).toNat) e | false => .no) = _
  rw [hi, hj]
  rfl
theorem small_of {j : Int} (h1 : -1000000 ≤ j) (h2 : j ≤ 1000000) : smallI j = true := by
  have g1 : -(2 ^ 62 : Int) ≤ j := Int.le_trans (by decide) h1
  have g2 : j < 2 ^ 62 := Int.lt_of_le_of_lt h2 (by decide)
  unfold smallI
  rw [decide_eq_true g1, decide_eq_true g2]
  rfl
theorem sFor_ok {fi : VEnv → RI} {γ : Kd → D → VEnv → Option VEnv} {f : VEnv → SRes} {env e : VEnv} {k : Kd} {ds : List D} (h : fi env = .ok k ds e) : sFor fi γ f env = forL γ f k ds e := by
  unfold sFor
  rw [h]
theorem vLc_ok {fi : VEnv → RI} {γ : Kd → D → VEnv → Option VEnv} {ft : VEnv → RT} {fe : VEnv → RE} {vs : List Nat} {env e : VEnv} {k : Kd} {ds out : List D} (h1 : fi env = .ok k ds e) (h2 : ds.length ≤ lineN) (h3 : lcL γ ft fe k (nestE e vs) ds = some out) : vLc fi γ ft fe vs env = .ok .fr (.lst out) e := by
  unfold vLc
  rw [h1]
  dsimp only
  rw [decide_eq_true h2, h3]
theorem sSet_fr {i : Nat} {fa : VEnv → RE} {env e : VEnv} {d : D} (h : fa env = .ok .fr d e) : sSet i fa env = .nx (e.set i (some (.own, d))) := by
  unfold sSet
  rw [h]
  rfl
theorem sSeq_ap {f g : VEnv → SRes} {e : VEnv} : sSeq f g e = (f e).bind g := rfl
/-- a loop that keeps P -/
theorem forL_inv {γ : Kd → D → VEnv → Option VEnv} {f : VEnv → SRes} {k : Kd} (P : Nat → VEnv → Prop) : ∀ (ds : List D) (i : Nat) (e : VEnv), P i e → (∀ j d e, ds[j]? = some d → P (i + j) e → ∃ e1, γ k d e = some e1 ∧ ∃ e2, f e1 = .nx e2 ∧ P (i + j + 1) e2) → ∃ e', forL γ f k ds e = .nx e' ∧ P (i + ds.length) e'
  | [], i, e, h, _ => ⟨e, rfl, h⟩
  | d :: ds, i, e, h, hs => by
    obtain ⟨e1, h1, e2, h2, h3⟩ := hs 0 d e rfl h
    obtain ⟨e', h4, h5⟩ := forL_inv P ds (i + 1) e2 h3 fun j d e hj hp => by
      have q := hs (j + 1) d e (by simpa using hj) (by rw [← Nat.add_assoc, Nat.add_right_comm]; exact hp)
      rw [show i + 1 + j + 1 = i + (j + 1) + 1 by omega]
      exact q
    refine ⟨e', ?_, by rw [List.length_cons, ← Nat.add_assoc, Nat.add_right_comm]; exact h5⟩
    unfold forL
    rw [h1]
    show (match f e1 with | .nx e2 => forL γ f k ds e2 | .ct e2 => forL γ f k ds e2 | .bk e2 => .nx e2 | r => r) = _
    rw [h2]
    exact h4
end Vi

set_option Elab.async false
set_option linter.all false
set_option maxRecDepth 100000
set_option maxHeartbeats 0
namespace Hd
open PySem PySem.Spec PyProof.Rows L2 Vi
def top (i : Nat) : Stmt := PySem.Challenge.pw_manifoldzeros_k00_numbers_of_a_field.main.body.getD i (.Pass ⟨0, 0, 0, 0⟩)
def d__law_pool : He.DefD := ⟨("_law_pool", none), "_law_pool", "_law_pool", defArgs (top 24), defBody (top 24), defScope (top 24), [], []⟩
def d__law_common : He.DefD := ⟨("_law_common", none), "_law_common", "_law_common", defArgs (top 25), defBody (top 25), defScope (top 25), [], []⟩
def d__law_lowest : He.DefD := ⟨("_law_lowest", none), "_law_lowest", "_law_lowest", defArgs (top 26), defBody (top 26), defScope (top 26), [], []⟩
def d__law_number : He.DefD := ⟨("_law_number", none), "_law_number", "_law_number", defArgs (top 27), defBody (top 27), defScope (top 27), [], []⟩
def d__law_pair : He.DefD := ⟨("_law_pair", none), "_law_pair", "_law_pair", defArgs (top 29), defBody (top 29), defScope (top 29), [], []⟩
def d__law_same : He.DefD := ⟨("_law_same", none), "_law_same", "_law_same", defArgs (top 28), defBody (top 28), defScope (top 28), [], []⟩
def d_number_of : He.DefD := ⟨("number_of", none), "number_of", "number_of", defArgs (top 12), defBody (top 12), defScope (top 12), [], []⟩
def d_lowest : He.DefD := ⟨("lowest", none), "lowest", "lowest", defArgs (top 9), defBody (top 9), defScope (top 9), [], []⟩
def d_invert : He.DefD := ⟨("invert", none), "invert", "invert", defArgs (top 17), defBody (top 17), defScope (top 17), [], []⟩
def d_multiply : He.DefD := ⟨("multiply", none), "multiply", "multiply", defArgs (top 16), defBody (top 16), defScope (top 16), [], []⟩
def d_divide : He.DefD := ⟨("divide", none), "divide", "divide", defArgs (top 18), defBody (top 18), defScope (top 18), [], []⟩
def d_ratio_of : He.DefD := ⟨("ratio_of", none), "ratio_of", "ratio_of", defArgs (top 19), defBody (top 19), defScope (top 19), [], []⟩
def d__law_no_inverse : He.DefD := ⟨("_law_no_inverse", none), "_law_no_inverse", "_law_no_inverse", defArgs (top 30), defBody (top 30), defScope (top 30), [], []⟩
def d_add : He.DefD := ⟨("add", none), "add", "add", defArgs (top 13), defBody (top 13), defScope (top 13), [], []⟩
def d_shifted : He.DefD := ⟨("shifted", none), "shifted", "shifted", defArgs (top 21), defBody (top 21), defScope (top 21), [], []⟩
def d_dot : He.DefD := ⟨("dot", none), "dot", "dot", defArgs (top 22), defBody (top 22), defScope (top 22), [], []⟩
def d__law_rows : He.DefD := ⟨("_law_rows", none), "_law_rows", "_law_rows", defArgs (top 31), defBody (top 31), defScope (top 31), [], []⟩
def d_check_field : He.DefD := ⟨("check_field", none), "check_field", "check_field", defArgs (top 8), defBody (top 8), defScope (top 8), [], []⟩
def d__law_fields : He.DefD := ⟨("_law_fields", none), "_law_fields", "_law_fields", defArgs (top 32), defBody (top 32), defScope (top 32), [], []⟩
def d_is_integer : He.DefD := ⟨("is_integer", none), "is_integer", "is_integer", defArgs (top 10), defBody (top 10), defScope (top 10), [], []⟩
def d_is_number : He.DefD := ⟨("is_number", none), "is_number", "is_number", defArgs (top 11), defBody (top 11), defScope (top 11), [], []⟩
def d__law_kinds : He.DefD := ⟨("_law_kinds", none), "_law_kinds", "_law_kinds", defArgs (top 33), defBody (top 33), defScope (top 33), [], []⟩
def d_negate : He.DefD := ⟨("negate", none), "negate", "negate", defArgs (top 14), defBody (top 14), defScope (top 14), [], []⟩
def d_raise_to : He.DefD := ⟨("raise_to", none), "raise_to", "raise_to", defArgs (top 20), defBody (top 20), defScope (top 20), [], []⟩
def d_subtract : He.DefD := ⟨("subtract", none), "subtract", "subtract", defArgs (top 15), defBody (top 15), defScope (top 15), [], []⟩
def d_law : He.DefD := ⟨("law", none), "law", "law", defArgs (top 34), defBody (top 34), defScope (top 34), [], []⟩
def fn : List He.DefD := [d__law_pool, d__law_common, d__law_lowest, d__law_number, d__law_pair, d__law_same, d_number_of, d_lowest, d_invert, d_multiply, d_divide, d_ratio_of, d__law_no_inverse, d_add, d_shifted, d_dot, d__law_rows, d_check_field, d__law_fields, d_is_integer, d_is_number, d__law_kinds, d_negate, d_raise_to, d_subtract, d_law]
def fa : List He.Fa := [.glo "_law_pool", .glo "_law_common", .glo "_law_lowest", .glo "_law_number", .glo "_law_pair", .glo "_law_same", .glo "number_of", .glo "lowest", .glo "invert", .glo "multiply", .glo "divide", .glo "ratio_of", .glo "_law_no_inverse", .glo "add", .glo "shifted", .glo "dot", .glo "_law_rows", .glo "check_field", .glo "_law_fields", .glo "is_integer", .glo "is_number", .glo "_law_kinds", .glo "negate", .glo "raise_to", .glo "subtract", .glo "law", .glo "GridError", .glo "InvalidField", .glo "InvalidNumber", .glo "NoInverse", .glo "PRIMES", .free "ValueError", .free "abs", .free "bool", .free "int", .free "isinstance", .free "len", .free "list", .free "range", .free "sum", .free "tuple", .free "zip", .exc "GridError", .exc "InvalidField", .exc "InvalidNumber", .exc "NoInverse", .exm "GridError" "GridError" true, .exm "InvalidField" "GridError" true, .exm "InvalidNumber" "GridError" true, .exm "NoInverse" "GridError" true, .exm "GridError" "InvalidField" false, .exm "InvalidField" "InvalidField" true, .exm "InvalidNumber" "InvalidField" false, .exm "NoInverse" "InvalidField" false, .exm "GridError" "NoInverse" false, .exm "InvalidField" "NoInverse" false, .exm "InvalidNumber" "NoInverse" false, .exm "NoInverse" "NoInverse" true]
def exs (K : PySem.W.Frag) : List Bool := [xBf K "gcd" "math.gcd", He.tupB K "PRIMES" [.int 2, .int 3, .int 5, .int 7, .int 11], xEx K "GridError", xEx K "InvalidField", xEx K "InvalidNumber", xEx K "NoInverse", xKit K "GridError" (.cls "GridError") true, xKit K "GridError" (.cls "InvalidField") false, xKit K "GridError" (.cls "InvalidNumber") false, xKit K "GridError" (.cls "NoInverse") false, xKit K "GridError" (.ty .valueError) true, xKit K "InvalidField" (.cls "GridError") true, xKit K "InvalidField" (.cls "InvalidField") true, xKit K "InvalidField" (.cls "InvalidNumber") false, xKit K "InvalidField" (.cls "NoInverse") false, xKit K "InvalidField" (.ty .valueError) true, xKit K "InvalidNumber" (.cls "GridError") true, xKit K "InvalidNumber" (.cls "InvalidField") false, xKit K "InvalidNumber" (.cls "InvalidNumber") true, xKit K "InvalidNumber" (.cls "NoInverse") false, xKit K "InvalidNumber" (.ty .valueError) true, xKit K "NoInverse" (.cls "GridError") true, xKit K "NoInverse" (.cls "InvalidField") false, xKit K "NoInverse" (.cls "InvalidNumber") false, xKit K "NoInverse" (.cls "NoInverse") true, xKit K "NoInverse" (.ty .valueError) true]
def ex (K : PySem.W.Frag) : Bool := (exs K).all id
theorem exGet {K : PySem.W.Frag} (h : ex K = true) (i : Nat) {b : Bool} (e : (exs K)[i]? = some b) : b = true := List.all_eq_true.mp h b (List.mem_of_getElem? e)
abbrev T0 (K : PySem.W.Frag) (mg : Str → Option Value) : Prop := Tx fa fn ex K mg
end Hd

set_option Elab.async false
set_option linter.all false
set_option maxRecDepth 100000
set_option maxHeartbeats 0
namespace Hd
open PySem PySem.Spec PyProof.Rows L2 Vi
abbrev R : PySem.W.OpenRow := PySem.W.OpenLaw.row PySem.Challenge.rw_manifoldzeros_k00_numbers_of_a_field
abbrev hk : PySem.W.Hook := hookX 4 fa fn ex
def ob (s : PySem.W.SharedT) : Bool × He.AlD := obX 4 fa fn ex (HandSHeadRun.getT s)
theorem ob_eq (s : PySem.W.SharedT) : ob s = hk.obs s.abs := obX_eq (HandSHeadRun.getT_eq s)
def nm0 : List Str := ["GridError", "InvalidField", "InvalidNumber", "NoInverse", "PRIMES", "check_field", "lowest", "is_integer", "is_number", "number_of", "add", "negate", "subtract", "multiply", "invert", "divide", "ratio_of", "raise_to", "shifted", "dot", "_law_pool", "_law_common", "_law_lowest", "_law_number", "_law_same", "_law_pair", "_law_no_inverse", "_law_rows", "_law_fields", "_law_kinds"]
def nms : List Str := nm0
def qv : Program := PySem.W.view R.prog [0, 34]
theorem run (w : World) : HandSHeadRun.RunEqI R qv hk ob 8000 nms w := by
  unfold HandSHeadRun.RunEqI
  kernel_rfl
end Hd

set_option Elab.async false
set_option linter.all false
set_option maxRecDepth 100000
set_option maxHeartbeats 0
namespace Mi
open PySem PySem.Spec PyProof.Rows L2 Vi
def wfuel : Nat := 2 ^ 20000
def c_PRIMES : D := .tup [.int 2, .int 3, .int 5, .int 7, .int 11]
def mt_GridError (nm : Str) : Option Bool := if nm = "GridError" then some true else if nm = "InvalidField" then some true else if nm = "InvalidNumber" then some true else if nm = "NoInverse" then some true else none
def mt_InvalidField (nm : Str) : Option Bool := if nm = "GridError" then some false else if nm = "InvalidField" then some true else if nm = "InvalidNumber" then some false else if nm = "NoInverse" then some false else none
def mt_NoInverse (nm : Str) : Option Bool := if nm = "GridError" then some false else if nm = "InvalidField" then some false else if nm = "InvalidNumber" then some false else if nm = "NoInverse" then some true else none
def xTb (nm : Str) (d : D) : Option Bool := if nm = "GridError" then (match d with | .cls y => if y = "GridError" then some true else if y = "InvalidField" then some false else if y = "InvalidNumber" then some false else if y = "NoInverse" then some false else none | .ty .valueError => some true | _ => none) else if nm = "InvalidField" then (match d with | .cls y => if y = "GridError" then some true else if y = "InvalidField" then some true else if y = "InvalidNumber" then some false else if y = "NoInverse" then some false else none | .ty .valueError => some true | _ => none) else if nm = "InvalidNumber" then (match d with | .cls y => if y = "GridError" then some true else if y = "InvalidField" then some false else if y = "InvalidNumber" then some true else if y = "NoInverse" then some false else none | .ty .valueError => some true | _ => none) else if nm = "NoInverse" then (match d with | .cls y => if y = "GridError" then some true else if y = "InvalidField" then some false else if y = "InvalidNumber" then some false else if y = "NoInverse" then some true else none | .ty .valueError => some true | _ => none) else none
def N__law_pool : List Str := ["script", "count", "pool", "total", "cell", "left", "k", "mixed"]
def b1__law_pool : VEnv → SRes := (sIf (vTru (vOp gGt (vVar 5) (vC (.int 0)))) (sSeq (sApp 2 (vOp gMod (vVar 5) (vC (.int 1000))))
  (sSet 5 (vOp gDiv (vVar 5) (vC (.int 1000))))) sNx)
def b2__law_pool : VEnv → SRes := (sSeq (sSet 7 (vOp gMod (vCB gInt (vaCons true (vOpA gAdd (vOpA gMul (vVar 7) (vC (.int 48271))) (vC (.int 11))) vaNil)) (vC (.int 2147483647))))
  (sApp 2 (vOp gMod (vOp gDiv (vVar 7) (vC (.int 7))) (vC (.int 1000)))))
def b3__law_pool : VEnv → SRes := (sSeq (sSet 5 (vIf (vTru (vOp gGe (vVar 4) (vC (.int 0)))) (vOpA gMul (vC (.int 2)) (vCB gInt (vaCons true (vVar 4) vaNil))) (vOp gSub (vOpA gMul (vUn gNeg (vC (.int 2))) (vCB gInt (vaCons true (vVar 4) vaNil))) (vC (.int 1)))))
  (sSeq (sSet 3 (vOp gMod (vCB gInt (vaCons true (vOpA gAdd (vOpA gMul (vVar 3) (vC (.int 31))) (vVar 5)) vaNil)) (vC (.int 2147483629))))
  (sIf (vTru (vOp gGe (vVar 5) (vOp gPow (vC (.int 10)) (vC (.int 18))))) (sFor (viRng1 (vaCons true (vVar 1) vaNil)) (γName 6) b1__law_pool) (sSeq (sSet 7 (vOp gMod (vCB gInt (vaCons true (vOpA gAdd (vOpA gMul (vOpA gAdd (vVar 5) (vC (.int 5))) (vC (.int 40692))) (vC (.int 977))) vaNil)) (vC (.int 2147483399))))
  (sFor (viRng1 (vaCons true (vC (.int 6)) vaNil)) (γName 6) b2__law_pool)))))
def b4__law_pool : VEnv → SRes := (sSeq (sSet 3 (vOp gMod (vCB gInt (vaCons true (vOpA gAdd (vOpA gMul (vVar 3) (vC (.int 69621))) (vC (.int 13))) vaNil)) (vC (.int 2147483629))))
  (sApp 2 (vOp gMod (vOp gDiv (vVar 3) (vC (.int 11))) (vC (.int 1000)))))
def m__law_pool : VEnv → SRes := (sSeq (sSet 2 (vLst vaNil))
  (sSeq (sSet 3 (vC (.int 7)))
  (sSeq (sFor (viSeq (vVar 0)) (γName 4) b3__law_pool)
  (sSeq (sFor (viRng1 (vaCons true (vVar 1) vaNil)) (γName 6) b4__law_pool)
  (sRet (vSl (vVar 2) voNone (voSome (vVar 1))))))))
def f__law_pool : List D → FR := mF 8 [true, true] m__law_pool
def N__law_common : List Str := ["a", "b"]
def t1__law_common : VEnv → RT := (vTru (vOp neD (vVar 1) (vC (.int 0))))
def b2__law_common : VEnv → SRes := (sPar 0 1 (vaIt (vVar 1) (vaIt (vOp gMod (vCB gInt (vaCons true (vVar 0) vaNil)) (vVar 1)) vaNil)))
def m__law_common : VEnv → SRes := (sSeq (sSet 0 (vCB gAbs (vaCons true (vVar 0) vaNil)))
  (sSeq (sSet 1 (vCB gAbs (vaCons true (vVar 1) vaNil)))
  (sSeq (whL t1__law_common b2__law_common wfuel)
  (sRet (vVar 0)))))
def f__law_common : List D → FR := mF 2 [true, true] m__law_common
def N__law_lowest : List Str := ["n", "d", "common"]
def m__law_lowest : VEnv → SRes := (sSeq (sSet 2 (vCall [true, true] f__law_common (vaCons true (vVar 0) (vaCons true (vVar 1) vaNil))))
  (sSeq (sIf (vTru (vOp gLt (vVar 1) (vC (.int 0)))) (sSet 2 (vUn gNeg (vVar 2))) sNx)
  (sRet (vTup (vaCons false (vOp gDiv (vVar 0) (vVar 2)) (vaCons false (vOp gDiv (vVar 1) (vVar 2)) vaNil))))))
def f__law_lowest : List D → FR := mF 3 [true, true] m__law_lowest
def N__law_number : List Str := ["prime", "n", "d", "k"]
def b1__law_number : VEnv → SRes := (sIf (vTru (vOp eqD (vOp gMod (vCB gInt (vaCons true (vOp gSub (vOpA gMul (vVar 3) (vVar 2)) (vVar 1)) vaNil)) (vVar 0)) (vC (.int 0)))) (sRet (vVar 3)) sNx)
def m__law_number : VEnv → SRes := (sSeq (sIf (vTru (vOp eqD (vVar 0) (vC (.int 0)))) (sRet (vCall [true, true] f__law_lowest (vaCons true (vVar 1) (vaCons true (vVar 2) vaNil)))) sNx)
  (sSeq (sFor (viRng1 (vaCons true (vVar 0) vaNil)) (γName 3) b1__law_number)
  (sRet (vC (.int 0)))))
def f__law_number : List D → FR := mF 4 [true, true, true] m__law_number
def N__law_pair : List Str := ["pool", "at", "prime", "wide", "n", "d"]
def m__law_pair : VEnv → SRes := (sSeq (sSet 4 (vIf (vTru (vVar 3)) (vOp gSub (vOpA gAdd (vOpA gMul (vIx (vVar 0) (vVar 1)) (vC (.int 1000))) (vIx (vVar 0) (vOpA gAdd (vVar 1) (vC (.int 1))))) (vC (.int 500000))) (vOp gSub (vOp gMod (vIx (vVar 0) (vVar 1)) (vC (.int 601))) (vC (.int 300)))))
  (sSeq (sSet 5 (vC (.int 1)))
  (sSeq (sIf (vTru (vOp eqD (vVar 2) (vC (.int 0)))) (sSet 5 (vOpA gAdd (vC (.int 1)) (vIf (vTru (vVar 3)) (vOp gMod (vCB gInt (vaCons true (vOpA gAdd (vOpA gMul (vIx (vVar 0) (vOpA gAdd (vVar 1) (vC (.int 1)))) (vC (.int 1000))) (vIx (vVar 0) (vOpA gAdd (vVar 1) (vC (.int 2))))) vaNil)) (vC (.int 999999))) (vOp gMod (vIx (vVar 0) (vOpA gAdd (vVar 1) (vC (.int 1)))) (vC (.int 12)))))) sNx)
  (sSeq (sIf (vTru (vOp eqD (vOp gMod (vIx (vVar 0) (vOpA gAdd (vVar 1) (vC (.int 2)))) (vC (.int 5))) (vC (.int 0)))) (sSet 4 (vC (.int 0))) sNx)
  (sRet (vTup (vaCons false (vVar 4) (vaCons false (vVar 5) vaNil))))))))
def f__law_pair : List D → FR := mF 6 [true, true, true, true] m__law_pair
def N__law_same : List Str := ["prime", "actual", "due", "part"]
def b1__law_same : VEnv → SRes := (sIf (tOrT (tNotT (vTru (vCB gIsi (vaCons true (vVar 3) (vaCons true (vC (.ty .int)) vaNil))))) (vTru (vCB gIsi (vaCons true (vVar 3) (vaCons true (vC (.ty .bool)) vaNil))))) (sRet (vC (.bl false))) sNx)
def m__law_same : VEnv → SRes := (sSeq (sIf (vTru (vOp gGt (vVar 0) (vC (.int 0)))) (sRet (vAndV (vCB gIsi (vaCons true (vVar 1) (vaCons true (vC (.ty .int)) vaNil))) (vAndV (vNotV (vCB gIsi (vaCons true (vVar 1) (vaCons true (vC (.ty .bool)) vaNil)))) (vOp eqD (vVar 1) (vVar 2))))) sNx)
  (sSeq (sIf (tOrT (tNotT (vTru (vCB gIsi (vaCons true (vVar 1) (vaCons true (vC (.ty .tuple)) vaNil))))) (vTru (vOp neD (vCB gLen (vaCons true (vVar 1) vaNil)) (vC (.int 2))))) (sRet (vC (.bl false))) sNx)
  (sSeq (sFor (viSeq (vVar 1)) (γName 3) b1__law_same)
  (sRet (vOp eqD (vVar 1) (vVar 2))))))
def f__law_same : List D → FR := mF 4 [true, true, true] m__law_same
def N_number_of : List Str := ["prime", "n"]
def m_number_of : VEnv → SRes := (sSeq (sIf (vTru (vOp gGt (vVar 0) (vC (.int 0)))) (sRet (vOp gMod (vVar 1) (vVar 0))) sNx)
  (sRet (vTup (vaCons false (vVar 1) (vaCons false (vC (.int 1)) vaNil)))))
def f_number_of : List D → FR := mF 2 [true, true] m_number_of
def N_lowest : List Str := ["n", "d", "common"]
def m_lowest : VEnv → SRes := (sSeq (sSet 2 (vCB gGcd (vaCons true (vVar 0) (vaCons true (vVar 1) vaNil))))
  (sSeq (sIf (vTru (vOp gLt (vVar 1) (vC (.int 0)))) (sSet 2 (vUn gNeg (vVar 2))) sNx)
  (sRet (vTup (vaCons false (vOp gDiv (vVar 0) (vVar 2)) (vaCons false (vOp gDiv (vVar 1) (vVar 2)) vaNil))))))
def f_lowest : List D → FR := mF 3 [true, true] m_lowest
def N_invert : List Str := ["prime", "a", "inverse"]
def t1_invert : VEnv → RT := (vTru (vOp neD (vOp gMod (vOpA gMul (vVar 2) (vVar 1)) (vVar 0)) (vC (.int 1))))
def b2_invert : VEnv → SRes := (sAug 2 (fun i j => i + j) (vC (.int 1)))
def m_invert : VEnv → SRes := (sSeq (sIf (vTru (vOp eqD (vVar 1) (vCall [true, true] f_number_of (vaCons true (vVar 0) (vaCons true (vC (.int 0)) vaNil))))) (fun e => .ex ⟨"NoInverse", none⟩ e) sNx)
  (sSeq (sIf (vTru (vOp eqD (vVar 0) (vC (.int 0)))) (sRet (vCall [true, true] f_lowest (vaCons true (vIx (vVar 1) (vC (.int 1))) (vaCons true (vIx (vVar 1) (vC (.int 0))) vaNil)))) sNx)
  (sSeq (sSet 2 (vC (.int 1)))
  (sSeq (whL t1_invert b2_invert wfuel)
  (sRet (vVar 2))))))
def f_invert : List D → FR := mF 3 [true, true] m_invert
def N_multiply : List Str := ["prime", "a", "b"]
def m_multiply : VEnv → SRes := (sSeq (sIf (vTru (vOp gGt (vVar 0) (vC (.int 0)))) (sRet (vOp gMod (vOpA gMul (vVar 1) (vVar 2)) (vVar 0))) sNx)
  (sRet (vCall [true, true] f_lowest (vaCons true (vOpA gMul (vIx (vVar 1) (vC (.int 0))) (vIx (vVar 2) (vC (.int 0)))) (vaCons true (vOpA gMul (vIx (vVar 1) (vC (.int 1))) (vIx (vVar 2) (vC (.int 1)))) vaNil)))))
def f_multiply : List D → FR := mF 3 [true, true, true] m_multiply
def N_divide : List Str := ["prime", "a", "b"]
def m_divide : VEnv → SRes := (sRet (vCall [true, true, true] f_multiply (vaCons true (vVar 0) (vaCons true (vVar 1) (vaCons true (vCall [true, true] f_invert (vaCons true (vVar 0) (vaCons true (vVar 2) vaNil))) vaNil)))))
def f_divide : List D → FR := mF 3 [true, true, true] m_divide
def N_ratio_of : List Str := ["prime", "n", "d"]
def m_ratio_of : VEnv → SRes := (sRet (vCall [true, true, true] f_divide (vaCons true (vVar 0) (vaCons true (vCall [true, true] f_number_of (vaCons true (vVar 0) (vaCons true (vVar 1) vaNil))) (vaCons true (vCall [true, true] f_number_of (vaCons true (vVar 0) (vaCons true (vVar 2) vaNil))) vaNil)))))
def f_ratio_of : List D → FR := mF 3 [true, true, true] m_ratio_of
def N__law_no_inverse : List Str := ["prime", "zero", "number", "raised", "e"]
def m__law_no_inverse : VEnv → SRes := (sSeq (sSet 3 (vC (.int 0)))
  (sSeq (sTryAs 4 (sExpr (vCall [true, true] f_invert (vaCons true (vVar 0) (vaCons true (vVar 1) vaNil)))) mt_NoInverse (sSet 3 (vOpA gAdd (vVar 3) (vCB gInt (vaCons true (vAndV (vIsE 4 xTb (vC (.ty .valueError))) (vNotV (vIsEs 4 xTb (vaCons false (vC (.cls "InvalidField")) (vaCons false (vC (.cls "InvalidNumber")) vaNil))))) vaNil)))))
  (sSeq (sTryAs 4 (sExpr (vCall [true, true, true] f_divide (vaCons true (vVar 0) (vaCons true (vVar 2) (vaCons true (vVar 1) vaNil))))) mt_GridError (sSet 3 (vOpA gAdd (vVar 3) (vCB gInt (vaCons true (vIsE 4 xTb (vC (.cls "NoInverse"))) vaNil)))))
  (sSeq (sTry (sExpr (vCall [true, true, true] f_ratio_of (vaCons true (vVar 0) (vaCons true (vC (.int 7)) (vaCons true (vC (.int 0)) vaNil))))) [⟨mt_NoInverse, (sSet 3 (vOpA gAdd (vVar 3) (vC (.int 1))))⟩])
  (sRet (vOp eqD (vVar 3) (vC (.int 3))))))))
def f__law_no_inverse : List D → FR := mF 5 [true, true, true] m__law_no_inverse
def N_add : List Str := ["prime", "a", "b"]
def m_add : VEnv → SRes := (sSeq (sIf (vTru (vOp gGt (vVar 0) (vC (.int 0)))) (sRet (vOp gMod (vOpA gAdd (vVar 1) (vVar 2)) (vVar 0))) sNx)
  (sRet (vCall [true, true] f_lowest (vaCons true (vOpA gAdd (vOpA gMul (vIx (vVar 1) (vC (.int 0))) (vIx (vVar 2) (vC (.int 1)))) (vOpA gMul (vIx (vVar 2) (vC (.int 0))) (vIx (vVar 1) (vC (.int 1))))) (vaCons true (vOpA gMul (vIx (vVar 1) (vC (.int 1))) (vIx (vVar 2) (vC (.int 1)))) vaNil)))))
def f_add : List D → FR := mF 3 [true, true, true] m_add
def N_shifted : List Str := ["prime", "row", "factor", "other", "a", "b"]
def e1_shifted : VEnv → RE := (vOp gMod (vOpA gAdd (vVar 4) (vOpA gMul (vVar 2) (vVar 5))) (vVar 0))
def e2_shifted : VEnv → RE := (vCall [true, true, true] f_add (vaCons true (vVar 0) (vaCons true (vVar 4) (vaCons true (vCall [true, true, true] f_multiply (vaCons true (vVar 0) (vaCons true (vVar 2) (vaCons true (vVar 5) vaNil)))) vaNil))))
def m_shifted : VEnv → SRes := (sSeq (sIf (vTru (vOp gGt (vVar 0) (vC (.int 0)))) (sRet (vLc (viZip (vaIt (vVar 1) (vaIt (vVar 3) vaNil))) (γTup 2 (γCons (γName 4) (γCons (γName 5) γNil))) tYesV e1_shifted [4, 5])) sNx)
  (sRet (vLc (viZip (vaIt (vVar 1) (vaIt (vVar 3) vaNil))) (γTup 2 (γCons (γName 4) (γCons (γName 5) γNil))) tYesV e2_shifted [4, 5])))
def f_shifted : List D → FR := mF 6 [true, true, true, true] m_shifted
def N_dot : List Str := ["prime", "row", "other", "total", "a", "b"]
def e1_dot : VEnv → RE := (vOpA gMul (vVar 4) (vVar 5))
def b2_dot : VEnv → SRes := (sSet 3 (vCall [true, true, true] f_add (vaCons true (vVar 0) (vaCons true (vVar 3) (vaCons true (vCall [true, true, true] f_multiply (vaCons true (vVar 0) (vaCons true (vVar 4) (vaCons true (vVar 5) vaNil)))) vaNil)))))
def m_dot : VEnv → SRes := (sSeq (sIf (vTru (vOp gGt (vVar 0) (vC (.int 0)))) (sRet (vOp gMod (vCB gSum (vaCons true (vLc (viZip (vaIt (vVar 1) (vaIt (vVar 2) vaNil))) (γTup 2 (γCons (γName 4) (γCons (γName 5) γNil))) tYesV e1_dot [4, 5]) vaNil)) (vVar 0))) sNx)
  (sSeq (sSet 3 (vCall [true, true] f_number_of (vaCons true (vVar 0) (vaCons true (vC (.int 0)) vaNil))))
  (sSeq (sFor (viZip (vaIt (vVar 1) (vaIt (vVar 2) vaNil))) (γTup 2 (γCons (γName 4) (γCons (γName 5) γNil))) b2_dot)
  (sRet (vVar 3)))))
def f_dot : List D → FR := mF 6 [true, true, true] m_dot
def N__law_rows : List Str := ["prime", "firsts", "seconds", "factor", "row", "other", "scale", "kept", "made", "n", "d", "k", "a", "b", "due"]
def e1__law_rows : VEnv → RE := (vCall [true, true, true] f__law_number (vaCons true (vVar 0) (vaCons true (vVar 9) (vaCons true (vVar 10) vaNil))))
def e2__law_rows : VEnv → RE := (vCall [true, true, true] f__law_number (vaCons true (vVar 0) (vaCons true (vVar 9) (vaCons true (vVar 10) vaNil))))
def b3__law_rows : VEnv → SRes := (sSeq (sPar 12 13 (vaIt (vIx (vVar 1) (vVar 11)) (vaIt (vIx (vVar 2) (vVar 11)) vaNil)))
  (sSeq (sSet 14 (vTup (vaCons false (vOpA gAdd (vOpA gMul (vOpA gMul (vIx (vVar 12) (vC (.int 0))) (vIx (vVar 3) (vC (.int 1)))) (vIx (vVar 13) (vC (.int 1)))) (vOpA gMul (vOpA gMul (vIx (vVar 3) (vC (.int 0))) (vIx (vVar 13) (vC (.int 0)))) (vIx (vVar 12) (vC (.int 1))))) (vaCons false (vOpA gMul (vOpA gMul (vIx (vVar 12) (vC (.int 1))) (vIx (vVar 3) (vC (.int 1)))) (vIx (vVar 13) (vC (.int 1)))) vaNil))))
  (sSeq (sIf (tNotT (vTru (vCall [true, true, true] f__law_same (vaCons true (vVar 0) (vaCons true (vIx (vVar 8) (vVar 11)) (vaCons true (vCall [true, true, true] f__law_number (vaCons true (vVar 0) (vaCons true (vIx (vVar 14) (vC (.int 0))) (vaCons true (vIx (vVar 14) (vC (.int 1))) vaNil)))) vaNil)))))) (sRet (vC (.bl false))) sNx)
  (sPar 9 10 (vaIt (vOpA gAdd (vOpA gMul (vOpA gMul (vVar 9) (vIx (vVar 12) (vC (.int 1)))) (vIx (vVar 13) (vC (.int 1)))) (vOpA gMul (vOpA gMul (vIx (vVar 12) (vC (.int 0))) (vIx (vVar 13) (vC (.int 0)))) (vVar 10))) (vaIt (vOpA gMul (vOpA gMul (vVar 10) (vIx (vVar 12) (vC (.int 1)))) (vIx (vVar 13) (vC (.int 1)))) vaNil))))))
def m__law_rows : VEnv → SRes := (sSeq (sSet 4 (vLc (viSeq (vVar 1)) (γTup 2 (γCons (γName 9) (γCons (γName 10) γNil))) tYesV e1__law_rows [9, 10]))
  (sSeq (sSet 5 (vLc (viSeq (vVar 2)) (γTup 2 (γCons (γName 9) (γCons (γName 10) γNil))) tYesV e2__law_rows [9, 10]))
  (sSeq (sSet 6 (vCall [true, true, true] f__law_number (vaCons true (vVar 0) (vaCons true (vIx (vVar 3) (vC (.int 0))) (vaCons true (vIx (vVar 3) (vC (.int 1))) vaNil)))))
  (sSeq (sSet 7 (vLst (vaCons false (vCB gList (vaCons true (vVar 4) vaNil)) (vaCons false (vCB gList (vaCons true (vVar 5) vaNil)) vaNil))))
  (sSeq (sSet 8 (vCall [true, true, true, true] f_shifted (vaCons true (vVar 0) (vaCons true (vVar 4) (vaCons true (vVar 6) (vaCons true (vVar 5) vaNil))))))
  (sSeq (sIf (tOrT (tNotT (vTru (vCB gIsi (vaCons true (vVar 8) (vaCons true (vC (.ty .list)) vaNil))))) (tOrT (vTru (vOp neD (vCB gLen (vaCons true (vVar 8) vaNil)) (vCB gLen (vaCons true (vVar 4) vaNil)))) (vTru (vOp neD (vLst (vaCons false (vVar 4) (vaCons false (vVar 5) vaNil))) (vVar 7))))) (sRet (vC (.bl false))) sNx)
  (sSeq (sAsg (γTup 2 (γCons (γName 9) (γCons (γName 10) γNil))) (vTup (vaCons false (vC (.int 0)) (vaCons false (vC (.int 1)) vaNil))))
  (sSeq (sFor (viRng1 (vaCons true (vCB gLen (vaCons true (vVar 4) vaNil)) vaNil)) (γName 11) b3__law_rows)
  (sRet (vAndV (vCall [true, true, true] f__law_same (vaCons true (vVar 0) (vaCons true (vCall [true, true, true] f_dot (vaCons true (vVar 0) (vaCons true (vVar 4) (vaCons true (vVar 5) vaNil)))) (vaCons true (vCall [true, true, true] f__law_number (vaCons true (vVar 0) (vaCons true (vVar 9) (vaCons true (vVar 10) vaNil)))) vaNil)))) (vOp eqD (vLst (vaCons false (vVar 4) (vaCons false (vVar 5) vaNil))) (vVar 7))))))))))))
def f__law_rows : List D → FR := mF 15 [true, true, true, true] m__law_rows
def N_check_field : List Str := ["prime"]
def m_check_field : VEnv → SRes := (sIf (tAndT (vTru (vOp neD (vVar 0) (vC (.int 0)))) (vTru (vOp gNotIn (vVar 0) (vC c_PRIMES)))) (fun e => .ex ⟨"InvalidField", none⟩ e) sNx)
def f_check_field : List D → FR := mF 1 [true] m_check_field
def N__law_fields : List Str := ["n", "raised", "e"]
def m__law_fields : VEnv → SRes := (sSeq (sSet 1 (vC (.bl false)))
  (sSeq (sTryAs 2 (sExpr (vCall [true] f_check_field (vaCons true (vVar 0) vaNil))) mt_InvalidField (sSet 1 (vAndV (vIsE 2 xTb (vC (.cls "GridError"))) (vAndV (vIsE 2 xTb (vC (.ty .valueError))) (vNotV (vIsEs 2 xTb (vaCons false (vC (.cls "NoInverse")) (vaCons false (vC (.cls "InvalidNumber")) vaNil))))))))
  (sRet (vOp eqD (vVar 1) (vOp gNotIn (vVar 0) (vTup (vaCons false (vC (.int 0)) (vaCons false (vC (.int 2)) (vaCons false (vC (.int 3)) (vaCons false (vC (.int 5)) (vaCons false (vC (.int 7)) (vaCons false (vC (.int 11)) vaNil))))))))))))
def f__law_fields : List D → FR := mF 3 [true] m__law_fields
def N_is_integer : List Str := ["value"]
def m_is_integer : VEnv → SRes := (sRet (vAndV (vCB gIsi (vaCons true (vVar 0) (vaCons true (vC (.ty .int)) vaNil))) (vNotV (vCB gIsi (vaCons true (vVar 0) (vaCons true (vC (.ty .bool)) vaNil))))))
def f_is_integer : List D → FR := mF 1 [true] m_is_integer
def N_is_number : List Str := ["prime", "value"]
def m_is_number : VEnv → SRes := (sSeq (sIf (vTru (vOp gGt (vVar 0) (vC (.int 0)))) (sRet (vAndV (vCall [true] f_is_integer (vaCons true (vVar 1) vaNil)) (vChain gLe gLt (vC (.int 0)) (vVar 1) (vVar 0)))) sNx)
  (sSeq (sIf (tOrT (tNotT (vTru (vCB gIsi (vaCons true (vVar 1) (vaCons true (vC (.ty .tuple)) vaNil))))) (vTru (vOp neD (vCB gLen (vaCons true (vVar 1) vaNil)) (vC (.int 2))))) (sRet (vC (.bl false))) sNx)
  (sSeq (sIf (tOrT (tNotT (vTru (vCall [true] f_is_integer (vaCons true (vIx (vVar 1) (vC (.int 0))) vaNil)))) (tNotT (vTru (vCall [true] f_is_integer (vaCons true (vIx (vVar 1) (vC (.int 1))) vaNil))))) (sRet (vC (.bl false))) sNx)
  (sRet (vAndV (vOp gGt (vIx (vVar 1) (vC (.int 1))) (vC (.int 0))) (vOp eqD (vCB gGcd (vaCons true (vIx (vVar 1) (vC (.int 0))) (vaCons true (vIx (vVar 1) (vC (.int 1))) vaNil))) (vC (.int 1))))))))
def f_is_number : List D → FR := mF 2 [true, true] m_is_number
def N__law_kinds : List Str := ["prime", "number", "n", "within"]
def m__law_kinds : VEnv → SRes := (sSeq (sIf (tOrT (vTru (vOp gNotB (vCall [true, true] f_is_number (vaCons true (vVar 0) (vaCons true (vTup vaNil) vaNil))) (vC (.bl false)))) (vTru (vOp gNotB (vCall [true, true] f_is_number (vaCons true (vVar 0) (vaCons true (vTup (vaCons false (vC (.int 1)) (vaCons false (vC (.int 1)) (vaCons false (vC (.int 1)) vaNil)))) vaNil))) (vC (.bl false))))) (sRet (vC (.bl false))) sNx)
  (sSeq (sIf (vTru (vOp gGt (vVar 0) (vC (.int 0)))) (sSeq (sIf (tOrT (vTru (vOp gNotB (vCall [true, true] f_is_number (vaCons true (vVar 0) (vaCons true (vVar 1) vaNil))) (vC (.bl true)))) (vTru (vOp gNotB (vCall [true, true] f_is_number (vaCons true (vVar 0) (vaCons true (vVar 0) vaNil))) (vC (.bl false))))) (sRet (vC (.bl false))) sNx)
  (sSeq (sSet 3 (vCall [true, true] f_is_number (vaCons true (vVar 0) (vaCons true (vVar 2) vaNil))))
  (sRet (vAndV (vCB gIsi (vaCons true (vVar 3) (vaCons true (vC (.ty .bool)) vaNil))) (vAndV (vOp eqD (vVar 3) (vChain gLe gLt (vC (.int 0)) (vVar 2) (vVar 0))) (vOp gIsB (vCall [true, true] f_is_number (vaCons true (vVar 0) (vaCons true (vTup (vaCons false (vVar 1) (vaCons false (vC (.int 1)) vaNil))) vaNil))) (vC (.bl false)))))))) sNx)
  (sSeq (sIf (tOrT (vTru (vOp gNotB (vCall [true, true] f_is_number (vaCons true (vC (.int 0)) (vaCons true (vVar 1) vaNil))) (vC (.bl true)))) (vTru (vOp gNotB (vCall [true, true] f_is_number (vaCons true (vC (.int 0)) (vaCons true (vVar 2) vaNil))) (vC (.bl false))))) (sRet (vC (.bl false))) sNx)
  (sSeq (sIf (tOrT (vTru (vOp gNotB (vCall [true, true] f_is_number (vaCons true (vC (.int 0)) (vaCons true (vTup (vaCons false (vOpA gMul (vC (.int 2)) (vIx (vVar 1) (vC (.int 0)))) (vaCons false (vOpA gMul (vC (.int 2)) (vIx (vVar 1) (vC (.int 1)))) vaNil))) vaNil))) (vC (.bl false)))) (vTru (vOp gNotB (vCall [true, true] f_is_number (vaCons true (vC (.int 0)) (vaCons true (vTup (vaCons false (vIx (vVar 1) (vC (.int 0))) (vaCons false (vC (.int 0)) vaNil))) vaNil))) (vC (.bl false))))) (sRet (vC (.bl false))) sNx)
  (sRet (vAndV (vOp gIsB (vCall [true, true] f_is_number (vaCons true (vC (.int 0)) (vaCons true (vTup (vaCons false (vUn gNeg (vIx (vVar 1) (vC (.int 0)))) (vaCons false (vUn gNeg (vIx (vVar 1) (vC (.int 1)))) vaNil))) vaNil))) (vC (.bl false))) (vOp gIsB (vCall [true, true] f_is_number (vaCons true (vC (.int 0)) (vaCons true (vTup (vaCons false (vIx (vVar 1) (vC (.int 0))) vaNil)) vaNil))) (vC (.bl false)))))))))
def f__law_kinds : List D → FR := mF 4 [true, true, true] m__law_kinds
def N_negate : List Str := ["prime", "a"]
def m_negate : VEnv → SRes := (sSeq (sIf (vTru (vOp gGt (vVar 0) (vC (.int 0)))) (sRet (vOp gMod (vOp gSub (vVar 0) (vVar 1)) (vVar 0))) sNx)
  (sRet (vTup (vaCons false (vUn gNeg (vIx (vVar 1) (vC (.int 0)))) (vaCons false (vIx (vVar 1) (vC (.int 1))) vaNil)))))
def f_negate : List D → FR := mF 2 [true, true] m_negate
def N_raise_to : List Str := ["prime", "a", "power", "result", "_"]
def b1_raise_to : VEnv → SRes := (sSet 3 (vCall [true, true, true] f_multiply (vaCons true (vVar 0) (vaCons true (vVar 3) (vaCons true (vVar 1) vaNil)))))
def m_raise_to : VEnv → SRes := (sSeq (sSet 3 (vCall [true, true] f_number_of (vaCons true (vVar 0) (vaCons true (vC (.int 1)) vaNil))))
  (sSeq (sFor (viRng1 (vaCons true (vVar 2) vaNil)) (γName 4) b1_raise_to)
  (sRet (vVar 3))))
def f_raise_to : List D → FR := mF 5 [true, true, true] m_raise_to
def N_subtract : List Str := ["prime", "a", "b"]
def m_subtract : VEnv → SRes := (sRet (vCall [true, true, true] f_add (vaCons true (vVar 0) (vaCons true (vVar 1) (vaCons true (vCall [true, true] f_negate (vaCons true (vVar 0) (vaCons true (vVar 2) vaNil))) vaNil)))))
def f_subtract : List D → FR := mF 3 [true, true, true] m_subtract
def N_law : List Str := ["script", "pool", "prime", "wide", "long", "a", "b", "power", "x", "y", "n", "due", "less", "d", "k", "zero", "firsts", "seconds"]
def b1_law : VEnv → SRes := (sIf (tNotT (vTru (vCall [true, true, true] f__law_same (vaCons true (vVar 2) (vaCons true (vCall [true, true] f_number_of (vaCons true (vVar 2) (vaCons true (vVar 10) vaNil))) (vaCons true (vCall [true, true, true] f__law_number (vaCons true (vVar 2) (vaCons true (vVar 10) (vaCons true (vC (.int 1)) vaNil)))) vaNil)))))) (sRet (vC (.bl false))) sNx)
def b2_law : VEnv → SRes := (sPar 10 13 (vaIt (vOpA gMul (vVar 10) (vIx (vVar 5) (vC (.int 0)))) (vaIt (vOpA gMul (vVar 13) (vIx (vVar 5) (vC (.int 1)))) vaNil)))
def b3_law : VEnv → SRes := (sIf (tNotT (vTru (vCall [true, true, true] f__law_same (vaCons true (vVar 2) (vaCons true (vCall [true, true, true] f_ratio_of (vaCons true (vVar 2) (vaCons true (vVar 10) (vaCons true (vIx (vVar 6) (vC (.int 0))) vaNil)))) (vaCons true (vCall [true, true, true] f__law_number (vaCons true (vVar 2) (vaCons true (vVar 10) (vaCons true (vIx (vVar 6) (vC (.int 0))) vaNil)))) vaNil)))))) (sRet (vC (.bl false))) sNx)
def e4_law : VEnv → RE := (vCall [true, true, true, true] f__law_pair (vaCons true (vVar 1) (vaCons true (vOpA gAdd (vC (.int 10)) (vOpA gMul (vC (.int 3)) (vVar 14))) (vaCons true (vVar 2) (vaCons true (vVar 3) vaNil)))))
def e5_law : VEnv → RE := (vCall [true, true, true, true] f__law_pair (vaCons true (vVar 1) (vaCons true (vOpA gAdd (vC (.int 30)) (vOpA gMul (vC (.int 3)) (vVar 14))) (vaCons true (vVar 2) (vaCons true (vVar 3) vaNil)))))
def m_law : VEnv → SRes := (sSeq (sSet 1 (vCall [true, true] f__law_pool (vaCons true (vVar 0) (vaCons true (vC (.int 60)) vaNil))))
  (sSeq (sSet 2 (vIx (vTup (vaCons false (vC (.int 2)) (vaCons false (vC (.int 3)) (vaCons false (vC (.int 5)) (vaCons false (vC (.int 7)) (vaCons false (vC (.int 11)) (vaCons false (vC (.int 0)) vaNil))))))) (vOp gMod (vIx (vVar 1) (vC (.int 0))) (vC (.int 6)))))
  (sSeq (sAsg (γTup 2 (γCons (γName 3) (γCons (γName 4) γNil))) (vTup (vaCons false (vOp eqD (vOp gMod (vIx (vVar 1) (vC (.int 55))) (vC (.int 4))) (vC (.int 0))) (vaCons false (vOpA gAdd (vOpA gMul (vOp gSub (vIx (vVar 1) (vC (.int 57))) (vC (.int 500))) (vOp gPow (vC (.int 10)) (vC (.int 57)))) (vIx (vVar 1) (vC (.int 58)))) vaNil))))
  (sSeq (sPar 5 6 (vaIt (vCall [true, true, true, true] f__law_pair (vaCons true (vVar 1) (vaCons true (vC (.int 1)) (vaCons true (vVar 2) (vaCons true (vVar 3) vaNil))))) (vaIt (vCall [true, true, true, true] f__law_pair (vaCons true (vVar 1) (vaCons true (vC (.int 4)) (vaCons true (vVar 2) (vaCons true (vVar 3) vaNil))))) vaNil)))
  (sSeq (sSet 7 (vOp gMod (vIx (vVar 1) (vC (.int 7))) (vIf (vTru (vOp eqD (vOp gMod (vIx (vVar 1) (vC (.int 56))) (vC (.int 4))) (vC (.int 0)))) (vC (.int 41)) (vC (.int 10)))))
  (sSeq (sPar 8 9 (vaIt (vCall [true, true, true] f__law_number (vaCons true (vVar 2) (vaCons true (vIx (vVar 5) (vC (.int 0))) (vaCons true (vIx (vVar 5) (vC (.int 1))) vaNil)))) (vaIt (vCall [true, true, true] f__law_number (vaCons true (vVar 2) (vaCons true (vIx (vVar 6) (vC (.int 0))) (vaCons true (vIx (vVar 6) (vC (.int 1))) vaNil)))) vaNil)))
  (sSeq (sIf (tOrT (vTru (vOp gNotN (vCall [true] f_check_field (vaCons true (vVar 2) vaNil)) (vC .non))) (tOrT (tNotT (vTru (vCall [true] f__law_fields (vaCons true (vOp gSub (vOp gMod (vIx (vVar 1) (vC (.int 9))) (vC (.int 20))) (vC (.int 5))) vaNil)))) (tNotT (vTru (vCall [true, true, true] f__law_kinds (vaCons true (vVar 2) (vaCons true (vVar 8) (vaCons true (vIx (vVar 5) (vC (.int 0))) vaNil)))))))) (sRet (vC (.bl false))) sNx)
  (sSeq (sIf (tOrT (tNotT (vTru (vCall [true] f__law_fields (vaCons true (vVar 4) vaNil)))) (tOrT (tNotT (vTru (vCall [true] f__law_fields (vaCons true (vUn gNeg (vVar 4)) vaNil)))) (tNotT (vTru (vCall [true, true, true] f__law_kinds (vaCons true (vVar 2) (vaCons true (vVar 8) (vaCons true (vVar 4) vaNil)))))))) (sRet (vC (.bl false))) sNx)
  (sSeq (sFor (viSeq (vTup (vaCons false (vIx (vVar 5) (vC (.int 0))) (vaCons false (vVar 4) vaNil)))) (γName 10) b1_law)
  (sSeq (sSet 11 (vCall [true, true, true] f__law_number (vaCons true (vVar 2) (vaCons true (vOpA gAdd (vOpA gMul (vIx (vVar 5) (vC (.int 0))) (vIx (vVar 6) (vC (.int 1)))) (vOpA gMul (vIx (vVar 6) (vC (.int 0))) (vIx (vVar 5) (vC (.int 1))))) (vaCons true (vOpA gMul (vIx (vVar 5) (vC (.int 1))) (vIx (vVar 6) (vC (.int 1)))) vaNil)))))
  (sSeq (sSet 12 (vCall [true, true, true] f__law_number (vaCons true (vVar 2) (vaCons true (vOp gSub (vOpA gMul (vIx (vVar 5) (vC (.int 0))) (vIx (vVar 6) (vC (.int 1)))) (vOpA gMul (vIx (vVar 6) (vC (.int 0))) (vIx (vVar 5) (vC (.int 1))))) (vaCons true (vOpA gMul (vIx (vVar 5) (vC (.int 1))) (vIx (vVar 6) (vC (.int 1)))) vaNil)))))
  (sSeq (sIf (tOrT (tNotT (vTru (vCall [true, true, true] f__law_same (vaCons true (vVar 2) (vaCons true (vCall [true, true, true] f_add (vaCons true (vVar 2) (vaCons true (vVar 8) (vaCons true (vVar 9) vaNil)))) (vaCons true (vVar 11) vaNil)))))) (tNotT (vTru (vCall [true, true, true] f__law_same (vaCons true (vVar 2) (vaCons true (vCall [true, true, true] f_subtract (vaCons true (vVar 2) (vaCons true (vVar 8) (vaCons true (vVar 9) vaNil)))) (vaCons true (vVar 12) vaNil))))))) (sRet (vC (.bl false))) sNx)
  (sSeq (sIf (tNotT (vTru (vCall [true, true, true] f__law_same (vaCons true (vVar 2) (vaCons true (vCall [true, true] f_negate (vaCons true (vVar 2) (vaCons true (vVar 8) vaNil))) (vaCons true (vCall [true, true, true] f__law_number (vaCons true (vVar 2) (vaCons true (vUn gNeg (vIx (vVar 5) (vC (.int 0)))) (vaCons true (vIx (vVar 5) (vC (.int 1))) vaNil)))) vaNil)))))) (sRet (vC (.bl false))) sNx)
  (sSeq (sIf (tNotT (vTru (vCall [true, true, true] f__law_same (vaCons true (vVar 2) (vaCons true (vCall [true, true, true] f_multiply (vaCons true (vVar 2) (vaCons true (vVar 8) (vaCons true (vVar 9) vaNil)))) (vaCons true (vCall [true, true, true] f__law_number (vaCons true (vVar 2) (vaCons true (vOpA gMul (vIx (vVar 5) (vC (.int 0))) (vIx (vVar 6) (vC (.int 0)))) (vaCons true (vOpA gMul (vIx (vVar 5) (vC (.int 1))) (vIx (vVar 6) (vC (.int 1)))) vaNil)))) vaNil)))))) (sRet (vC (.bl false))) sNx)
  (sSeq (sAsg (γTup 2 (γCons (γName 10) (γCons (γName 13) γNil))) (vTup (vaCons false (vC (.int 1)) (vaCons false (vC (.int 1)) vaNil))))
  (sSeq (sFor (viRng1 (vaCons true (vVar 7) vaNil)) (γName 14) b2_law)
  (sSeq (sIf (tNotT (vTru (vCall [true, true, true] f__law_same (vaCons true (vVar 2) (vaCons true (vCall [true, true, true] f_raise_to (vaCons true (vVar 2) (vaCons true (vVar 8) (vaCons true (vVar 7) vaNil)))) (vaCons true (vCall [true, true, true] f__law_number (vaCons true (vVar 2) (vaCons true (vVar 10) (vaCons true (vVar 13) vaNil)))) vaNil)))))) (sRet (vC (.bl false))) sNx)
  (sSeq (sSet 15 (vCall [true, true, true] f__law_number (vaCons true (vVar 2) (vaCons true (vC (.int 0)) (vaCons true (vC (.int 1)) vaNil)))))
  (sSeq (sIf (vTru (vOp neD (vVar 9) (vVar 15))) (sSeq (sIf (tNotT (vTru (vCall [true, true, true] f__law_same (vaCons true (vVar 2) (vaCons true (vCall [true, true] f_invert (vaCons true (vVar 2) (vaCons true (vVar 9) vaNil))) (vaCons true (vCall [true, true, true] f__law_number (vaCons true (vVar 2) (vaCons true (vIx (vVar 6) (vC (.int 1))) (vaCons true (vIx (vVar 6) (vC (.int 0))) vaNil)))) vaNil)))))) (sRet (vC (.bl false))) sNx)
  (sSeq (sIf (tNotT (vTru (vCall [true, true, true] f__law_same (vaCons true (vVar 2) (vaCons true (vCall [true, true, true] f_divide (vaCons true (vVar 2) (vaCons true (vVar 8) (vaCons true (vVar 9) vaNil)))) (vaCons true (vCall [true, true, true] f__law_number (vaCons true (vVar 2) (vaCons true (vOpA gMul (vIx (vVar 5) (vC (.int 0))) (vIx (vVar 6) (vC (.int 1)))) (vaCons true (vOpA gMul (vIx (vVar 5) (vC (.int 1))) (vIx (vVar 6) (vC (.int 0)))) vaNil)))) vaNil)))))) (sRet (vC (.bl false))) sNx)
  (sFor (viSeq (vTup (vaCons false (vIx (vVar 5) (vC (.int 0))) (vaCons false (vVar 4) vaNil)))) (γName 10) b3_law))) sNx)
  (sSeq (sSet 16 (vLc (viRng1 (vaCons true (vOp gMod (vIx (vVar 1) (vC (.int 8))) (vC (.int 7))) vaNil)) (γName 14) tYesV e4_law [14]))
  (sSeq (sSet 17 (vLc (viRng1 (vaCons true (vCB gLen (vaCons true (vVar 16) vaNil)) vaNil)) (γName 14) tYesV e5_law [14]))
  (sRet (vAndV (vCall [true, true, true] f__law_no_inverse (vaCons true (vVar 2) (vaCons true (vVar 15) (vaCons true (vVar 8) vaNil)))) (vCall [true, true, true, true] f__law_rows (vaCons true (vVar 2) (vaCons true (vVar 16) (vaCons true (vVar 17) (vaCons true (vVar 6) vaNil))))))))))))))))))))))))))))
def f_law : List D → FR := mF 18 [true] m_law
end Mi
namespace De
open PySem PySem.Spec PyProof.Rows L2 Vi Hd Mi
section
variable {K : PySem.W.Frag} {mg : Str → Option Value}
theorem g__law_pool (T : T0 K mg) : mg "_law_pool" = some (.ref (He.ga K "_law_pool")) := T.glo 0 "_law_pool"
theorem g__law_common (T : T0 K mg) : mg "_law_common" = some (.ref (He.ga K "_law_common")) := T.glo 1 "_law_common"
theorem g__law_lowest (T : T0 K mg) : mg "_law_lowest" = some (.ref (He.ga K "_law_lowest")) := T.glo 2 "_law_lowest"
theorem g__law_number (T : T0 K mg) : mg "_law_number" = some (.ref (He.ga K "_law_number")) := T.glo 3 "_law_number"
theorem g__law_pair (T : T0 K mg) : mg "_law_pair" = some (.ref (He.ga K "_law_pair")) := T.glo 4 "_law_pair"
theorem g__law_same (T : T0 K mg) : mg "_law_same" = some (.ref (He.ga K "_law_same")) := T.glo 5 "_law_same"
theorem g_number_of (T : T0 K mg) : mg "number_of" = some (.ref (He.ga K "number_of")) := T.glo 6 "number_of"
theorem g_lowest (T : T0 K mg) : mg "lowest" = some (.ref (He.ga K "lowest")) := T.glo 7 "lowest"
theorem g_invert (T : T0 K mg) : mg "invert" = some (.ref (He.ga K "invert")) := T.glo 8 "invert"
theorem g_multiply (T : T0 K mg) : mg "multiply" = some (.ref (He.ga K "multiply")) := T.glo 9 "multiply"
theorem g_divide (T : T0 K mg) : mg "divide" = some (.ref (He.ga K "divide")) := T.glo 10 "divide"
theorem g_ratio_of (T : T0 K mg) : mg "ratio_of" = some (.ref (He.ga K "ratio_of")) := T.glo 11 "ratio_of"
theorem g__law_no_inverse (T : T0 K mg) : mg "_law_no_inverse" = some (.ref (He.ga K "_law_no_inverse")) := T.glo 12 "_law_no_inverse"
theorem g_add (T : T0 K mg) : mg "add" = some (.ref (He.ga K "add")) := T.glo 13 "add"
theorem g_shifted (T : T0 K mg) : mg "shifted" = some (.ref (He.ga K "shifted")) := T.glo 14 "shifted"
theorem g_dot (T : T0 K mg) : mg "dot" = some (.ref (He.ga K "dot")) := T.glo 15 "dot"
theorem g__law_rows (T : T0 K mg) : mg "_law_rows" = some (.ref (He.ga K "_law_rows")) := T.glo 16 "_law_rows"
theorem g_check_field (T : T0 K mg) : mg "check_field" = some (.ref (He.ga K "check_field")) := T.glo 17 "check_field"
theorem g__law_fields (T : T0 K mg) : mg "_law_fields" = some (.ref (He.ga K "_law_fields")) := T.glo 18 "_law_fields"
theorem g_is_integer (T : T0 K mg) : mg "is_integer" = some (.ref (He.ga K "is_integer")) := T.glo 19 "is_integer"
theorem g_is_number (T : T0 K mg) : mg "is_number" = some (.ref (He.ga K "is_number")) := T.glo 20 "is_number"
theorem g__law_kinds (T : T0 K mg) : mg "_law_kinds" = some (.ref (He.ga K "_law_kinds")) := T.glo 21 "_law_kinds"
theorem g_negate (T : T0 K mg) : mg "negate" = some (.ref (He.ga K "negate")) := T.glo 22 "negate"
theorem g_raise_to (T : T0 K mg) : mg "raise_to" = some (.ref (He.ga K "raise_to")) := T.glo 23 "raise_to"
theorem g_subtract (T : T0 K mg) : mg "subtract" = some (.ref (He.ga K "subtract")) := T.glo 24 "subtract"
theorem g_law (T : T0 K mg) : mg "law" = some (.ref (He.ga K "law")) := T.glo 25 "law"
theorem g_GridError (T : T0 K mg) : mg "GridError" = some (.ref (He.ga K "GridError")) := T.glo 26 "GridError"
theorem g_InvalidField (T : T0 K mg) : mg "InvalidField" = some (.ref (He.ga K "InvalidField")) := T.glo 27 "InvalidField"
theorem g_InvalidNumber (T : T0 K mg) : mg "InvalidNumber" = some (.ref (He.ga K "InvalidNumber")) := T.glo 28 "InvalidNumber"
theorem g_NoInverse (T : T0 K mg) : mg "NoInverse" = some (.ref (He.ga K "NoInverse")) := T.glo 29 "NoInverse"
theorem g_PRIMES (T : T0 K mg) : mg "PRIMES" = some (.ref (He.ga K "PRIMES")) := T.glo 30 "PRIMES"
theorem n_ValueError (T : T0 K mg) : mg "ValueError" = none := T.free 31 "ValueError"
theorem n_abs (T : T0 K mg) : mg "abs" = none := T.free 32 "abs"
theorem n_bool (T : T0 K mg) : mg "bool" = none := T.free 33 "bool"
theorem n_int (T : T0 K mg) : mg "int" = none := T.free 34 "int"
theorem n_isinstance (T : T0 K mg) : mg "isinstance" = none := T.free 35 "isinstance"
theorem n_len (T : T0 K mg) : mg "len" = none := T.free 36 "len"
theorem n_list (T : T0 K mg) : mg "list" = none := T.free 37 "list"
theorem n_range (T : T0 K mg) : mg "range" = none := T.free 38 "range"
theorem n_sum (T : T0 K mg) : mg "sum" = none := T.free 39 "sum"
theorem n_tuple (T : T0 K mg) : mg "tuple" = none := T.free 40 "tuple"
theorem n_zip (T : T0 K mg) : mg "zip" = none := T.free 41 "zip"
theorem e_GridError (T : T0 K mg) : ExcF K "GridError" := T.exc 42 "GridError"
theorem e_InvalidField (T : T0 K mg) : ExcF K "InvalidField" := T.exc 43 "InvalidField"
theorem e_InvalidNumber (T : T0 K mg) : ExcF K "InvalidNumber" := T.exc 44 "InvalidNumber"
theorem e_NoInverse (T : T0 K mg) : ExcF K "NoInverse" := T.exc 45 "NoInverse"
theorem bf_gcd (T : T0 K mg) : mg "gcd" = some (.builtin "math.gcd") := xBf_ok (exGet T.e 0 rfl) T.h
theorem x_PRIMES (T : T0 K mg) : ∃ u v, mg "PRIMES" = some u ∧ RelV v u ∧ ∀ O H, Den K O H c_PRIMES v := glo_tup (exGet T.e 1 rfl) (g_PRIMES T) fun O H => by
  refine DenL.cons (by simp only [Den]; rfl) ?_; refine DenL.cons (by simp only [Den]; rfl) ?_; refine DenL.cons (by simp only [Den]; rfl) ?_; refine DenL.cons (by simp only [Den]; rfl) ?_; refine DenL.cons (by simp only [Den]; rfl) ?_; exact DenL.nil
theorem mo_GridError (T : T0 K mg) : MtOk K (.ref (He.ga K "GridError")) mt_GridError := by
  intro nm b h
  unfold mt_GridError at h
  split at h
  · rename_i e; subst e; cases h; exact T.exm 46 "GridError" "GridError" _
  split at h
  · rename_i e; subst e; cases h; exact T.exm 47 "InvalidField" "GridError" _
  split at h
  · rename_i e; subst e; cases h; exact T.exm 48 "InvalidNumber" "GridError" _
  split at h
  · rename_i e; subst e; cases h; exact T.exm 49 "NoInverse" "GridError" _
  cases h
theorem mo_InvalidField (T : T0 K mg) : MtOk K (.ref (He.ga K "InvalidField")) mt_InvalidField := by
  intro nm b h
  unfold mt_InvalidField at h
  split at h
  · rename_i e; subst e; cases h; exact T.exm 50 "GridError" "InvalidField" _
  split at h
  · rename_i e; subst e; cases h; exact T.exm 51 "InvalidField" "InvalidField" _
  split at h
  · rename_i e; subst e; cases h; exact T.exm 52 "InvalidNumber" "InvalidField" _
  split at h
  · rename_i e; subst e; cases h; exact T.exm 53 "NoInverse" "InvalidField" _
  cases h
theorem mo_NoInverse (T : T0 K mg) : MtOk K (.ref (He.ga K "NoInverse")) mt_NoInverse := by
  intro nm b h
  unfold mt_NoInverse at h
  split at h
  · rename_i e; subst e; cases h; exact T.exm 54 "GridError" "NoInverse" _
  split at h
  · rename_i e; subst e; cases h; exact T.exm 55 "InvalidField" "NoInverse" _
  split at h
  · rename_i e; subst e; cases h; exact T.exm 56 "InvalidNumber" "NoInverse" _
  split at h
  · rename_i e; subst e; cases h; exact T.exm 57 "NoInverse" "NoInverse" _
  cases h
theorem x_tb (T : T0 K mg) : ExTOk K xTb := by
  intro nm d b h
  unfold xTb at h
  split at h
  · rename_i e; subst e; refine ⟨xEx_ok (exGet T.e 2 rfl), ?_⟩
    split at h
    · split at h
      · rename_i e2; subst e2; cases h; exact xKit_ok (exGet T.e 6 rfl)
      split at h
      · rename_i e2; subst e2; cases h; exact xKit_ok (exGet T.e 7 rfl)
      split at h
      · rename_i e2; subst e2; cases h; exact xKit_ok (exGet T.e 8 rfl)
      split at h
      · rename_i e2; subst e2; cases h; exact xKit_ok (exGet T.e 9 rfl)
      cases h
    · cases h; exact xKit_ok (exGet T.e 10 rfl)
    · cases h
  split at h
  · rename_i e; subst e; refine ⟨xEx_ok (exGet T.e 3 rfl), ?_⟩
    split at h
    · split at h
      · rename_i e2; subst e2; cases h; exact xKit_ok (exGet T.e 11 rfl)
      split at h
      · rename_i e2; subst e2; cases h; exact xKit_ok (exGet T.e 12 rfl)
      split at h
      · rename_i e2; subst e2; cases h; exact xKit_ok (exGet T.e 13 rfl)
      split at h
      · rename_i e2; subst e2; cases h; exact xKit_ok (exGet T.e 14 rfl)
      cases h
    · cases h; exact xKit_ok (exGet T.e 15 rfl)
    · cases h
  split at h
  · rename_i e; subst e; refine ⟨xEx_ok (exGet T.e 4 rfl), ?_⟩
    split at h
    · split at h
      · rename_i e2; subst e2; cases h; exact xKit_ok (exGet T.e 16 rfl)
      split at h
      · rename_i e2; subst e2; cases h; exact xKit_ok (exGet T.e 17 rfl)
      split at h
      · rename_i e2; subst e2; cases h; exact xKit_ok (exGet T.e 18 rfl)
      split at h
      · rename_i e2; subst e2; cases h; exact xKit_ok (exGet T.e 19 rfl)
      cases h
    · cases h; exact xKit_ok (exGet T.e 20 rfl)
    · cases h
  split at h
  · rename_i e; subst e; refine ⟨xEx_ok (exGet T.e 5 rfl), ?_⟩
    split at h
    · split at h
      · rename_i e2; subst e2; cases h; exact xKit_ok (exGet T.e 21 rfl)
      split at h
      · rename_i e2; subst e2; cases h; exact xKit_ok (exGet T.e 22 rfl)
      split at h
      · rename_i e2; subst e2; cases h; exact xKit_ok (exGet T.e 23 rfl)
      split at h
      · rename_i e2; subst e2; cases h; exact xKit_ok (exGet T.e 24 rfl)
      cases h
    · cases h; exact xKit_ok (exGet T.e 25 rfl)
    · cases h
  cases h
end
section
variable {P : Program} {w : World} {K : PySem.W.Frag} {mg : Str → Option Value} {base : Heap}
theorem sc__law_pool : FnScope N__law_pool ["script", "count"] (defScope (top 24)) := ⟨rfl, rfl, rfl, by decide +kernel, rfl, by decide +kernel, by decide +kernel⟩
theorem fd__law_pool (T : T0 K mg) : ∃ fd, FunD K "_law_pool" "_law_pool" (defArgs (top 24)) (defBody (top 24)) (defScope (top 24)) [] [] (He.ga K "_law_pool") fd := by
  obtain ⟨fd, F⟩ := T.def_ 0 (d := d__law_pool) rfl
  exact ⟨fd, F⟩
theorem body__law_pool (T : T0 K mg) : ∀ (cdv : Value) (A : Around) (outer : List Env) (s : Shared) (H : Hp) (E : XK), Room 0 (A.deeper (envOfC "_law_pool" (defScope (top 24)) s.heap.objs.size (He.ga K "_law_pool") cdv)) →
    VSs (cxOf (L2.CX P w) P w K mg base N__law_pool "_law_pool" (defScope (top 24)) (He.ga K "_law_pool") cdv A outer s H E) (fun c d _ H => E c d H) (defBody (top 24)) m__law_pool := by
  intro cdv A outer s H E hr
  have tk := takes_of (X := cxOf (L2.CX P w) P w K mg base N__law_pool "_law_pool" (defScope (top 24)) (He.ga K "_law_pool") cdv A outer s H E) (E := E) rfl rfl rfl rfl
  exact (vss_cons (vs_set (i := 2) sc__law_pool.nd rfl (by first | exact Or.inl rfl | exact Or.inr rfl) (ve_lst va_nil))
  (vss_cons (vs_set (i := 3) sc__law_pool.nd rfl (by first | exact Or.inl rfl | exact Or.inr rfl) ve_int)
  (vss_cons (vs_for (passes_of rfl) rfl (vi_seq (ve_var (i := 0) rfl)) (vg_name (i := 4) sc__law_pool.nd rfl (by first | exact Or.inl rfl | exact Or.inr rfl)) (vss_cons (vs_set (i := 5) sc__law_pool.nd rfl (by first | exact Or.inl rfl | exact Or.inr rfl) (ve_if (vt_ge (ve_var (i := 4) rfl) ve_int) (ve_mul ve_int (ve_cint rfl (n_int T) (va_cons true (ve_var (i := 4) rfl) va_nil))) (ve_sub (ve_mul (ve_neg ve_int) (ve_cint rfl (n_int T) (va_cons true (ve_var (i := 4) rfl) va_nil))) ve_int)))
  (vss_cons (vs_set (i := 3) sc__law_pool.nd rfl (by first | exact Or.inl rfl | exact Or.inr rfl) (ve_mod (ve_cint rfl (n_int T) (va_cons true (ve_add (ve_mul (ve_var (i := 3) rfl) ve_int) (ve_var (i := 5) rfl)) va_nil)) ve_int))
  (vss_one (vs_if (vt_ge (ve_var (i := 5) rfl) (ve_pow ve_int ve_int)) (vss_one (vs_for (passes_of rfl) rfl (vi_range1 rfl (n_range T) (va_cons true (ve_var (i := 1) rfl) va_nil)) (vg_name (i := 6) sc__law_pool.nd rfl (by first | exact Or.inl rfl | exact Or.inr rfl)) (vss_one (vs_if (vt_gt (ve_var (i := 5) rfl) ve_int) (vss_cons (vs_append (i := 2) rfl (by first | exact Or.inl rfl | exact Or.inr (Or.inl rfl)) (ve_mod (ve_var (i := 5) rfl) ve_int))
  (vss_one (vs_set (i := 5) sc__law_pool.nd rfl (by first | exact Or.inl rfl | exact Or.inr rfl) (ve_fdiv (ve_var (i := 5) rfl) ve_int)))) vss_nil)))) (vss_cons (vs_set (i := 7) sc__law_pool.nd rfl (by first | exact Or.inl rfl | exact Or.inr rfl) (ve_mod (ve_cint rfl (n_int T) (va_cons true (ve_add (ve_mul (ve_add (ve_var (i := 5) rfl) ve_int) ve_int) ve_int) va_nil)) ve_int))
  (vss_one (vs_for (passes_of rfl) rfl (vi_range1 rfl (n_range T) (va_cons true ve_int va_nil)) (vg_name (i := 6) sc__law_pool.nd rfl (by first | exact Or.inl rfl | exact Or.inr rfl)) (vss_cons (vs_set (i := 7) sc__law_pool.nd rfl (by first | exact Or.inl rfl | exact Or.inr rfl) (ve_mod (ve_cint rfl (n_int T) (va_cons true (ve_add (ve_mul (ve_var (i := 7) rfl) ve_int) ve_int) va_nil)) ve_int))
  (vss_one (vs_append (i := 2) rfl (by first | exact Or.inl rfl | exact Or.inr (Or.inl rfl)) (ve_mod (ve_fdiv (ve_var (i := 7) rfl) ve_int) ve_int))))))))))))
  (vss_cons (vs_for (passes_of rfl) rfl (vi_range1 rfl (n_range T) (va_cons true (ve_var (i := 1) rfl) va_nil)) (vg_name (i := 6) sc__law_pool.nd rfl (by first | exact Or.inl rfl | exact Or.inr rfl)) (vss_cons (vs_set (i := 3) sc__law_pool.nd rfl (by first | exact Or.inl rfl | exact Or.inr rfl) (ve_mod (ve_cint rfl (n_int T) (va_cons true (ve_add (ve_mul (ve_var (i := 3) rfl) ve_int) ve_int) va_nil)) ve_int))
  (vss_one (vs_append (i := 2) rfl (by first | exact Or.inl rfl | exact Or.inr (Or.inl rfl)) (ve_mod (ve_fdiv (ve_var (i := 3) rfl) ve_int) ve_int)))))
  (vss_one (vs_ret (ve_sl (ve_var (i := 2) rfl) vo_none (vo_some (ve_var (i := 1) rfl)))))))))
theorem ok__law_pool (T : T0 K mg) : ∃ fd, FnOk P w K mg base (L2.CX P w) 1 (He.ga K "_law_pool") fd ["script", "count"] (spV K [true, true] f__law_pool) ∧ Binds K fd ["script", "count"] [] ∧ PySem.W.keepIn K (.ref (He.ga K "_law_pool")) = true := by
  obtain ⟨fd, F⟩ := fd__law_pool T
  exact ⟨fd, fn_okV (bs := [true, true]) (m := m__law_pool) (N := N__law_pool) (k := 0) F sc__law_pool rfl (body__law_pool T), FunD.bindsN F fun _ _ _ _ _ _ us hl => match us, hl with | [_, _], _ => rfl, F.kp⟩
theorem sc__law_common : FnScope N__law_common ["a", "b"] (defScope (top 25)) := ⟨rfl, rfl, rfl, by decide +kernel, rfl, by decide +kernel, by decide +kernel⟩
theorem fd__law_common (T : T0 K mg) : ∃ fd, FunD K "_law_common" "_law_common" (defArgs (top 25)) (defBody (top 25)) (defScope (top 25)) [] [] (He.ga K "_law_common") fd := by
  obtain ⟨fd, F⟩ := T.def_ 1 (d := d__law_common) rfl
  exact ⟨fd, F⟩
theorem body__law_common (T : T0 K mg) : ∀ (cdv : Value) (A : Around) (outer : List Env) (s : Shared) (H : Hp) (E : XK), Room 0 (A.deeper (envOfC "_law_common" (defScope (top 25)) s.heap.objs.size (He.ga K "_law_common") cdv)) →
    VSs (cxOf (L2.CX P w) P w K mg base N__law_common "_law_common" (defScope (top 25)) (He.ga K "_law_common") cdv A outer s H E) (fun c d _ H => E c d H) (defBody (top 25)) m__law_common := by
  intro cdv A outer s H E hr
  have tk := takes_of (X := cxOf (L2.CX P w) P w K mg base N__law_common "_law_common" (defScope (top 25)) (He.ga K "_law_common") cdv A outer s H E) (E := E) rfl rfl rfl rfl
  exact (vss_cons (vs_set (i := 0) sc__law_common.nd rfl (by first | exact Or.inl rfl | exact Or.inr rfl) (ve_abs rfl (n_abs T) (va_cons true (ve_var (i := 0) rfl) va_nil)))
  (vss_cons (vs_set (i := 1) sc__law_common.nd rfl (by first | exact Or.inl rfl | exact Or.inr rfl) (ve_abs rfl (n_abs T) (va_cons true (ve_var (i := 1) rfl) va_nil)))
  (vss_cons (vs_while wfuel (passes_of rfl) (vt_ne (ru64 hr) (ve_var (i := 1) rfl) ve_int) (vss_one (vs_par (i := 0) (j := 1) rfl sc__law_common.nd rfl rfl (by decide) rfl rfl (va_it (ve_var (i := 1) rfl) (va_it (ve_mod (ve_cint rfl (n_int T) (va_cons true (ve_var (i := 0) rfl) va_nil)) (ve_var (i := 1) rfl)) va_nil)) rfl)))
  (vss_one (vs_ret (ve_var (i := 0) rfl))))))
theorem ok__law_common (T : T0 K mg) : ∃ fd, FnOk P w K mg base (L2.CX P w) 1 (He.ga K "_law_common") fd ["a", "b"] (spV K [true, true] f__law_common) ∧ Binds K fd ["a", "b"] [] ∧ PySem.W.keepIn K (.ref (He.ga K "_law_common")) = true := by
  obtain ⟨fd, F⟩ := fd__law_common T
  exact ⟨fd, fn_okV (bs := [true, true]) (m := m__law_common) (N := N__law_common) (k := 0) F sc__law_common rfl (body__law_common T), FunD.bindsN F fun _ _ _ _ _ _ us hl => match us, hl with | [_, _], _ => rfl, F.kp⟩
theorem sc__law_lowest : FnScope N__law_lowest ["n", "d"] (defScope (top 26)) := ⟨rfl, rfl, rfl, by decide +kernel, rfl, by decide +kernel, by decide +kernel⟩
theorem fd__law_lowest (T : T0 K mg) : ∃ fd, FunD K "_law_lowest" "_law_lowest" (defArgs (top 26)) (defBody (top 26)) (defScope (top 26)) [] [] (He.ga K "_law_lowest") fd := by
  obtain ⟨fd, F⟩ := T.def_ 2 (d := d__law_lowest) rfl
  exact ⟨fd, F⟩
theorem body__law_lowest (T : T0 K mg) : ∀ (cdv : Value) (A : Around) (outer : List Env) (s : Shared) (H : Hp) (E : XK), Room 1 (A.deeper (envOfC "_law_lowest" (defScope (top 26)) s.heap.objs.size (He.ga K "_law_lowest") cdv)) →
    VSs (cxOf (L2.CX P w) P w K mg base N__law_lowest "_law_lowest" (defScope (top 26)) (He.ga K "_law_lowest") cdv A outer s H E) (fun c d _ H => E c d H) (defBody (top 26)) m__law_lowest := by
  intro cdv A outer s H E hr
  have tk := takes_of (X := cxOf (L2.CX P w) P w K mg base N__law_lowest "_law_lowest" (defScope (top 26)) (He.ga K "_law_lowest") cdv A outer s H E) (E := E) rfl rfl rfl rfl
  obtain ⟨fd__law_common, o__law_common, b__law_common, k__law_common⟩ := ok__law_common (P := P) (w := w) (base := base) T
  exact (vss_cons (vs_set (i := 2) sc__law_lowest.nd rfl (by first | exact Or.inl rfl | exact Or.inr rfl) (ve_call o__law_common (hr.mono (by decide)) rfl (g__law_common T) k__law_common b__law_common tk (va_cons true (ve_var (i := 0) rfl) (va_cons true (ve_var (i := 1) rfl) va_nil))))
  (vss_cons (vs_if (vt_lt (ve_var (i := 1) rfl) ve_int) (vss_one (vs_set (i := 2) sc__law_lowest.nd rfl (by first | exact Or.inl rfl | exact Or.inr rfl) (ve_neg (ve_var (i := 2) rfl)))) vss_nil)
  (vss_one (vs_ret (ve_tup (va_cons false (ve_fdiv (ve_var (i := 0) rfl) (ve_var (i := 2) rfl)) (va_cons false (ve_fdiv (ve_var (i := 1) rfl) (ve_var (i := 2) rfl)) va_nil)))))))
theorem ok__law_lowest (T : T0 K mg) : ∃ fd, FnOk P w K mg base (L2.CX P w) 2 (He.ga K "_law_lowest") fd ["n", "d"] (spV K [true, true] f__law_lowest) ∧ Binds K fd ["n", "d"] [] ∧ PySem.W.keepIn K (.ref (He.ga K "_law_lowest")) = true := by
  obtain ⟨fd, F⟩ := fd__law_lowest T
  exact ⟨fd, fn_okV (bs := [true, true]) (m := m__law_lowest) (N := N__law_lowest) (k := 1) F sc__law_lowest rfl (body__law_lowest T), FunD.bindsN F fun _ _ _ _ _ _ us hl => match us, hl with | [_, _], _ => rfl, F.kp⟩
theorem sc__law_number : FnScope N__law_number ["prime", "n", "d"] (defScope (top 27)) := ⟨rfl, rfl, rfl, by decide +kernel, rfl, by decide +kernel, by decide +kernel⟩
theorem fd__law_number (T : T0 K mg) : ∃ fd, FunD K "_law_number" "_law_number" (defArgs (top 27)) (defBody (top 27)) (defScope (top 27)) [] [] (He.ga K "_law_number") fd := by
  obtain ⟨fd, F⟩ := T.def_ 3 (d := d__law_number) rfl
  exact ⟨fd, F⟩
theorem body__law_number (T : T0 K mg) : ∀ (cdv : Value) (A : Around) (outer : List Env) (s : Shared) (H : Hp) (E : XK), Room 2 (A.deeper (envOfC "_law_number" (defScope (top 27)) s.heap.objs.size (He.ga K "_law_number") cdv)) →
    VSs (cxOf (L2.CX P w) P w K mg base N__law_number "_law_number" (defScope (top 27)) (He.ga K "_law_number") cdv A outer s H E) (fun c d _ H => E c d H) (defBody (top 27)) m__law_number := by
  intro cdv A outer s H E hr
  have tk := takes_of (X := cxOf (L2.CX P w) P w K mg base N__law_number "_law_number" (defScope (top 27)) (He.ga K "_law_number") cdv A outer s H E) (E := E) rfl rfl rfl rfl
  obtain ⟨fd__law_lowest, o__law_lowest, b__law_lowest, k__law_lowest⟩ := ok__law_lowest (P := P) (w := w) (base := base) T
  exact (vss_cons (vs_if (vt_eq (ru64 hr) (ve_var (i := 0) rfl) ve_int) (vss_one (vs_ret (ve_call o__law_lowest (hr.mono (by decide)) rfl (g__law_lowest T) k__law_lowest b__law_lowest tk (va_cons true (ve_var (i := 1) rfl) (va_cons true (ve_var (i := 2) rfl) va_nil))))) vss_nil)
  (vss_cons (vs_for (passes_of rfl) rfl (vi_range1 rfl (n_range T) (va_cons true (ve_var (i := 0) rfl) va_nil)) (vg_name (i := 3) sc__law_number.nd rfl (by first | exact Or.inl rfl | exact Or.inr rfl)) (vss_one (vs_if (vt_eq (ru64 hr) (ve_mod (ve_cint rfl (n_int T) (va_cons true (ve_sub (ve_mul (ve_var (i := 3) rfl) (ve_var (i := 2) rfl)) (ve_var (i := 1) rfl)) va_nil)) (ve_var (i := 0) rfl)) ve_int) (vss_one (vs_ret (ve_var (i := 3) rfl))) vss_nil)))
  (vss_one (vs_ret ve_int))))
theorem ok__law_number (T : T0 K mg) : ∃ fd, FnOk P w K mg base (L2.CX P w) 3 (He.ga K "_law_number") fd ["prime", "n", "d"] (spV K [true, true, true] f__law_number) ∧ Binds K fd ["prime", "n", "d"] [] ∧ PySem.W.keepIn K (.ref (He.ga K "_law_number")) = true := by
  obtain ⟨fd, F⟩ := fd__law_number T
  exact ⟨fd, fn_okV (bs := [true, true, true]) (m := m__law_number) (N := N__law_number) (k := 2) F sc__law_number rfl (body__law_number T), FunD.bindsN F fun _ _ _ _ _ _ us hl => match us, hl with | [_, _, _], _ => rfl, F.kp⟩
theorem sc__law_pair : FnScope N__law_pair ["pool", "at", "prime", "wide"] (defScope (top 29)) := ⟨rfl, rfl, rfl, by decide +kernel, rfl, by decide +kernel, by decide +kernel⟩
theorem fd__law_pair (T : T0 K mg) : ∃ fd, FunD K "_law_pair" "_law_pair" (defArgs (top 29)) (defBody (top 29)) (defScope (top 29)) [] [] (He.ga K "_law_pair") fd := by
  obtain ⟨fd, F⟩ := T.def_ 4 (d := d__law_pair) rfl
  exact ⟨fd, F⟩
theorem body__law_pair (T : T0 K mg) : ∀ (cdv : Value) (A : Around) (outer : List Env) (s : Shared) (H : Hp) (E : XK), Room 0 (A.deeper (envOfC "_law_pair" (defScope (top 29)) s.heap.objs.size (He.ga K "_law_pair") cdv)) →
    VSs (cxOf (L2.CX P w) P w K mg base N__law_pair "_law_pair" (defScope (top 29)) (He.ga K "_law_pair") cdv A outer s H E) (fun c d _ H => E c d H) (defBody (top 29)) m__law_pair := by
  intro cdv A outer s H E hr
  have tk := takes_of (X := cxOf (L2.CX P w) P w K mg base N__law_pair "_law_pair" (defScope (top 29)) (He.ga K "_law_pair") cdv A outer s H E) (E := E) rfl rfl rfl rfl
  exact (vss_cons (vs_set (i := 4) sc__law_pair.nd rfl (by first | exact Or.inl rfl | exact Or.inr rfl) (ve_if (vt_tru (ve_var (i := 3) rfl)) (ve_sub (ve_add (ve_mul (ve_ix (ve_var (i := 0) rfl) (ve_var (i := 1) rfl)) ve_int) (ve_ix (ve_var (i := 0) rfl) (ve_add (ve_var (i := 1) rfl) ve_int))) ve_int) (ve_sub (ve_mod (ve_ix (ve_var (i := 0) rfl) (ve_var (i := 1) rfl)) ve_int) ve_int)))
  (vss_cons (vs_set (i := 5) sc__law_pair.nd rfl (by first | exact Or.inl rfl | exact Or.inr rfl) ve_int)
  (vss_cons (vs_if (vt_eq (ru64 hr) (ve_var (i := 2) rfl) ve_int) (vss_one (vs_set (i := 5) sc__law_pair.nd rfl (by first | exact Or.inl rfl | exact Or.inr rfl) (ve_add ve_int (ve_if (vt_tru (ve_var (i := 3) rfl)) (ve_mod (ve_cint rfl (n_int T) (va_cons true (ve_add (ve_mul (ve_ix (ve_var (i := 0) rfl) (ve_add (ve_var (i := 1) rfl) ve_int)) ve_int) (ve_ix (ve_var (i := 0) rfl) (ve_add (ve_var (i := 1) rfl) ve_int))) va_nil)) ve_int) (ve_mod (ve_ix (ve_var (i := 0) rfl) (ve_add (ve_var (i := 1) rfl) ve_int)) ve_int))))) vss_nil)
  (vss_cons (vs_if (vt_eq (ru64 hr) (ve_mod (ve_ix (ve_var (i := 0) rfl) (ve_add (ve_var (i := 1) rfl) ve_int)) ve_int) ve_int) (vss_one (vs_set (i := 4) sc__law_pair.nd rfl (by first | exact Or.inl rfl | exact Or.inr rfl) ve_int)) vss_nil)
  (vss_one (vs_ret (ve_tup (va_cons false (ve_var (i := 4) rfl) (va_cons false (ve_var (i := 5) rfl) va_nil)))))))))
theorem ok__law_pair (T : T0 K mg) : ∃ fd, FnOk P w K mg base (L2.CX P w) 1 (He.ga K "_law_pair") fd ["pool", "at", "prime", "wide"] (spV K [true, true, true, true] f__law_pair) ∧ Binds K fd ["pool", "at", "prime", "wide"] [] ∧ PySem.W.keepIn K (.ref (He.ga K "_law_pair")) = true := by
  obtain ⟨fd, F⟩ := fd__law_pair T
  exact ⟨fd, fn_okV (bs := [true, true, true, true]) (m := m__law_pair) (N := N__law_pair) (k := 0) F sc__law_pair rfl (body__law_pair T), FunD.bindsN F fun _ _ _ _ _ _ us hl => match us, hl with | [_, _, _, _], _ => rfl, F.kp⟩
theorem sc__law_same : FnScope N__law_same ["prime", "actual", "due"] (defScope (top 28)) := ⟨rfl, rfl, rfl, by decide +kernel, rfl, by decide +kernel, by decide +kernel⟩
theorem fd__law_same (T : T0 K mg) : ∃ fd, FunD K "_law_same" "_law_same" (defArgs (top 28)) (defBody (top 28)) (defScope (top 28)) [] [] (He.ga K "_law_same") fd := by
  obtain ⟨fd, F⟩ := T.def_ 5 (d := d__law_same) rfl
  exact ⟨fd, F⟩
theorem body__law_same (T : T0 K mg) : ∀ (cdv : Value) (A : Around) (outer : List Env) (s : Shared) (H : Hp) (E : XK), Room 0 (A.deeper (envOfC "_law_same" (defScope (top 28)) s.heap.objs.size (He.ga K "_law_same") cdv)) →
    VSs (cxOf (L2.CX P w) P w K mg base N__law_same "_law_same" (defScope (top 28)) (He.ga K "_law_same") cdv A outer s H E) (fun c d _ H => E c d H) (defBody (top 28)) m__law_same := by
  intro cdv A outer s H E hr
  have tk := takes_of (X := cxOf (L2.CX P w) P w K mg base N__law_same "_law_same" (defScope (top 28)) (He.ga K "_law_same") cdv A outer s H E) (E := E) rfl rfl rfl rfl
  exact (vss_cons (vs_if (vt_gt (ve_var (i := 0) rfl) ve_int) (vss_one (vs_ret (ve_and (ve_isi rfl (n_isinstance T) (va_cons true (ve_var (i := 1) rfl) (va_cons true (ve_ty (t := .int) rfl (n_int T) boot_int) va_nil))) (ve_and (ve_not (ve_isi rfl (n_isinstance T) (va_cons true (ve_var (i := 1) rfl) (va_cons true (ve_ty (t := .bool) rfl (n_bool T) boot_bool) va_nil)))) (ve_one (ve_eq (ru64 hr) (ve_var (i := 1) rfl) (ve_var (i := 2) rfl))))))) vss_nil)
  (vss_cons (vs_if (VW.pt (vw_or (vt_not (vt_tru (ve_isi rfl (n_isinstance T) (va_cons true (ve_var (i := 1) rfl) (va_cons true (ve_ty (t := .tuple) rfl (n_tuple T) boot_tuple) va_nil))))) (vw_or1 (vt_ne (ru64 hr) (ve_len rfl (n_len T) (va_cons true (ve_var (i := 1) rfl) va_nil)) ve_int)))) (vss_one (vs_ret ve_bl)) vss_nil)
  (vss_cons (vs_for (passes_of rfl) rfl (vi_seq (ve_var (i := 1) rfl)) (vg_name (i := 3) sc__law_same.nd rfl (by first | exact Or.inl rfl | exact Or.inr rfl)) (vss_one (vs_if (VW.pt (vw_or (vt_not (vt_tru (ve_isi rfl (n_isinstance T) (va_cons true (ve_var (i := 3) rfl) (va_cons true (ve_ty (t := .int) rfl (n_int T) boot_int) va_nil))))) (vw_or1 (vt_tru (ve_isi rfl (n_isinstance T) (va_cons true (ve_var (i := 3) rfl) (va_cons true (ve_ty (t := .bool) rfl (n_bool T) boot_bool) va_nil))))))) (vss_one (vs_ret ve_bl)) vss_nil)))
  (vss_one (vs_ret (ve_eq (ru64 hr) (ve_var (i := 1) rfl) (ve_var (i := 2) rfl)))))))
theorem ok__law_same (T : T0 K mg) : ∃ fd, FnOk P w K mg base (L2.CX P w) 1 (He.ga K "_law_same") fd ["prime", "actual", "due"] (spV K [true, true, true] f__law_same) ∧ Binds K fd ["prime", "actual", "due"] [] ∧ PySem.W.keepIn K (.ref (He.ga K "_law_same")) = true := by
  obtain ⟨fd, F⟩ := fd__law_same T
  exact ⟨fd, fn_okV (bs := [true, true, true]) (m := m__law_same) (N := N__law_same) (k := 0) F sc__law_same rfl (body__law_same T), FunD.bindsN F fun _ _ _ _ _ _ us hl => match us, hl with | [_, _, _], _ => rfl, F.kp⟩
theorem sc_number_of : FnScope N_number_of ["prime", "n"] (defScope (top 12)) := ⟨rfl, rfl, rfl, by decide +kernel, rfl, by decide +kernel, by decide +kernel⟩
theorem fd_number_of (T : T0 K mg) : ∃ fd, FunD K "number_of" "number_of" (defArgs (top 12)) (defBody (top 12)) (defScope (top 12)) [] [] (He.ga K "number_of") fd := by
  obtain ⟨fd, F⟩ := T.def_ 6 (d := d_number_of) rfl
  exact ⟨fd, F⟩
theorem body_number_of (T : T0 K mg) : ∀ (cdv : Value) (A : Around) (outer : List Env) (s : Shared) (H : Hp) (E : XK), Room 0 (A.deeper (envOfC "number_of" (defScope (top 12)) s.heap.objs.size (He.ga K "number_of") cdv)) →
    VSs (cxOf (L2.CX P w) P w K mg base N_number_of "number_of" (defScope (top 12)) (He.ga K "number_of") cdv A outer s H E) (fun c d _ H => E c d H) (defBody (top 12)) m_number_of := by
  intro cdv A outer s H E hr
  have tk := takes_of (X := cxOf (L2.CX P w) P w K mg base N_number_of "number_of" (defScope (top 12)) (He.ga K "number_of") cdv A outer s H E) (E := E) rfl rfl rfl rfl
  exact (vss_cons (vs_if (vt_gt (ve_var (i := 0) rfl) ve_int) (vss_one (vs_ret (ve_mod (ve_var (i := 1) rfl) (ve_var (i := 0) rfl)))) vss_nil)
  (vss_one (vs_ret (ve_tup (va_cons false (ve_var (i := 1) rfl) (va_cons false ve_int va_nil))))))
theorem ok_number_of (T : T0 K mg) : ∃ fd, FnOk P w K mg base (L2.CX P w) 1 (He.ga K "number_of") fd ["prime", "n"] (spV K [true, true] f_number_of) ∧ Binds K fd ["prime", "n"] [] ∧ PySem.W.keepIn K (.ref (He.ga K "number_of")) = true := by
  obtain ⟨fd, F⟩ := fd_number_of T
  exact ⟨fd, fn_okV (bs := [true, true]) (m := m_number_of) (N := N_number_of) (k := 0) F sc_number_of rfl (body_number_of T), FunD.bindsN F fun _ _ _ _ _ _ us hl => match us, hl with | [_, _], _ => rfl, F.kp⟩
theorem sc_lowest : FnScope N_lowest ["n", "d"] (defScope (top 9)) := ⟨rfl, rfl, rfl, by decide +kernel, rfl, by decide +kernel, by decide +kernel⟩
theorem fd_lowest (T : T0 K mg) : ∃ fd, FunD K "lowest" "lowest" (defArgs (top 9)) (defBody (top 9)) (defScope (top 9)) [] [] (He.ga K "lowest") fd := by
  obtain ⟨fd, F⟩ := T.def_ 7 (d := d_lowest) rfl
  exact ⟨fd, F⟩
theorem body_lowest (T : T0 K mg) : ∀ (cdv : Value) (A : Around) (outer : List Env) (s : Shared) (H : Hp) (E : XK), Room 0 (A.deeper (envOfC "lowest" (defScope (top 9)) s.heap.objs.size (He.ga K "lowest") cdv)) →
    VSs (cxOf (L2.CX P w) P w K mg base N_lowest "lowest" (defScope (top 9)) (He.ga K "lowest") cdv A outer s H E) (fun c d _ H => E c d H) (defBody (top 9)) m_lowest := by
  intro cdv A outer s H E hr
  have tk := takes_of (X := cxOf (L2.CX P w) P w K mg base N_lowest "lowest" (defScope (top 9)) (He.ga K "lowest") cdv A outer s H E) (E := E) rfl rfl rfl rfl
  exact (vss_cons (vs_set (i := 2) sc_lowest.nd rfl (by first | exact Or.inl rfl | exact Or.inr rfl) (ve_gcd rfl (bf_gcd T) (va_cons true (ve_var (i := 0) rfl) (va_cons true (ve_var (i := 1) rfl) va_nil))))
  (vss_cons (vs_if (vt_lt (ve_var (i := 1) rfl) ve_int) (vss_one (vs_set (i := 2) sc_lowest.nd rfl (by first | exact Or.inl rfl | exact Or.inr rfl) (ve_neg (ve_var (i := 2) rfl)))) vss_nil)
  (vss_one (vs_ret (ve_tup (va_cons false (ve_fdiv (ve_var (i := 0) rfl) (ve_var (i := 2) rfl)) (va_cons false (ve_fdiv (ve_var (i := 1) rfl) (ve_var (i := 2) rfl)) va_nil)))))))
theorem ok_lowest (T : T0 K mg) : ∃ fd, FnOk P w K mg base (L2.CX P w) 1 (He.ga K "lowest") fd ["n", "d"] (spV K [true, true] f_lowest) ∧ Binds K fd ["n", "d"] [] ∧ PySem.W.keepIn K (.ref (He.ga K "lowest")) = true := by
  obtain ⟨fd, F⟩ := fd_lowest T
  exact ⟨fd, fn_okV (bs := [true, true]) (m := m_lowest) (N := N_lowest) (k := 0) F sc_lowest rfl (body_lowest T), FunD.bindsN F fun _ _ _ _ _ _ us hl => match us, hl with | [_, _], _ => rfl, F.kp⟩
theorem sc_invert : FnScope N_invert ["prime", "a"] (defScope (top 17)) := ⟨rfl, rfl, rfl, by decide +kernel, rfl, by decide +kernel, by decide +kernel⟩
theorem fd_invert (T : T0 K mg) : ∃ fd, FunD K "invert" "invert" (defArgs (top 17)) (defBody (top 17)) (defScope (top 17)) [] [] (He.ga K "invert") fd := by
  obtain ⟨fd, F⟩ := T.def_ 8 (d := d_invert) rfl
  exact ⟨fd, F⟩
theorem body_invert (T : T0 K mg) : ∀ (cdv : Value) (A : Around) (outer : List Env) (s : Shared) (H : Hp) (E : XK), Room 1 (A.deeper (envOfC "invert" (defScope (top 17)) s.heap.objs.size (He.ga K "invert") cdv)) →
    VSs (cxOf (L2.CX P w) P w K mg base N_invert "invert" (defScope (top 17)) (He.ga K "invert") cdv A outer s H E) (fun c d _ H => E c d H) (defBody (top 17)) m_invert := by
  intro cdv A outer s H E hr
  have tk := takes_of (X := cxOf (L2.CX P w) P w K mg base N_invert "invert" (defScope (top 17)) (He.ga K "invert") cdv A outer s H E) (E := E) rfl rfl rfl rfl
  obtain ⟨fd_number_of, o_number_of, b_number_of, k_number_of⟩ := ok_number_of (P := P) (w := w) (base := base) T
  obtain ⟨fd_lowest, o_lowest, b_lowest, k_lowest⟩ := ok_lowest (P := P) (w := w) (base := base) T
  exact (vss_cons (vs_if (vt_eq (ru64 hr) (ve_var (i := 1) rfl) (ve_call o_number_of (hr.mono (by decide)) rfl (g_number_of T) k_number_of b_number_of tk (va_cons true (ve_var (i := 0) rfl) (va_cons true ve_int va_nil)))) (vss_one (vs_raise rfl tk (mk_own (e_NoInverse T) (g_NoInverse T) rfl))) vss_nil)
  (vss_cons (vs_if (vt_eq (ru64 hr) (ve_var (i := 0) rfl) ve_int) (vss_one (vs_ret (ve_call o_lowest (hr.mono (by decide)) rfl (g_lowest T) k_lowest b_lowest tk (va_cons true (ve_ix (ve_var (i := 1) rfl) ve_int) (va_cons true (ve_ix (ve_var (i := 1) rfl) ve_int) va_nil))))) vss_nil)
  (vss_cons (vs_set (i := 2) sc_invert.nd rfl (by first | exact Or.inl rfl | exact Or.inr rfl) ve_int)
  (vss_cons (vs_while wfuel (passes_of rfl) (vt_ne (ru64 hr) (ve_mod (ve_mul (ve_var (i := 2) rfl) (ve_var (i := 1) rfl)) (ve_var (i := 0) rfl)) ve_int) (vss_one (vs_aug (i := 2) ip_add sc_invert.nd rfl (by first | exact Or.inl rfl | exact Or.inr rfl) ve_int)))
  (vss_one (vs_ret (ve_var (i := 2) rfl)))))))
theorem ok_invert (T : T0 K mg) : ∃ fd, FnOk P w K mg base (L2.CX P w) 2 (He.ga K "invert") fd ["prime", "a"] (spV K [true, true] f_invert) ∧ Binds K fd ["prime", "a"] [] ∧ PySem.W.keepIn K (.ref (He.ga K "invert")) = true := by
  obtain ⟨fd, F⟩ := fd_invert T
  exact ⟨fd, fn_okV (bs := [true, true]) (m := m_invert) (N := N_invert) (k := 1) F sc_invert rfl (body_invert T), FunD.bindsN F fun _ _ _ _ _ _ us hl => match us, hl with | [_, _], _ => rfl, F.kp⟩
theorem sc_multiply : FnScope N_multiply ["prime", "a", "b"] (defScope (top 16)) := ⟨rfl, rfl, rfl, by decide +kernel, rfl, by decide +kernel, by decide +kernel⟩
theorem fd_multiply (T : T0 K mg) : ∃ fd, FunD K "multiply" "multiply" (defArgs (top 16)) (defBody (top 16)) (defScope (top 16)) [] [] (He.ga K "multiply") fd := by
  obtain ⟨fd, F⟩ := T.def_ 9 (d := d_multiply) rfl
  exact ⟨fd, F⟩
theorem body_multiply (T : T0 K mg) : ∀ (cdv : Value) (A : Around) (outer : List Env) (s : Shared) (H : Hp) (E : XK), Room 1 (A.deeper (envOfC "multiply" (defScope (top 16)) s.heap.objs.size (He.ga K "multiply") cdv)) →
    VSs (cxOf (L2.CX P w) P w K mg base N_multiply "multiply" (defScope (top 16)) (He.ga K "multiply") cdv A outer s H E) (fun c d _ H => E c d H) (defBody (top 16)) m_multiply := by
  intro cdv A outer s H E hr
  have tk := takes_of (X := cxOf (L2.CX P w) P w K mg base N_multiply "multiply" (defScope (top 16)) (He.ga K "multiply") cdv A outer s H E) (E := E) rfl rfl rfl rfl
  obtain ⟨fd_lowest, o_lowest, b_lowest, k_lowest⟩ := ok_lowest (P := P) (w := w) (base := base) T
  exact (vss_cons (vs_if (vt_gt (ve_var (i := 0) rfl) ve_int) (vss_one (vs_ret (ve_mod (ve_mul (ve_var (i := 1) rfl) (ve_var (i := 2) rfl)) (ve_var (i := 0) rfl)))) vss_nil)
  (vss_one (vs_ret (ve_call o_lowest (hr.mono (by decide)) rfl (g_lowest T) k_lowest b_lowest tk (va_cons true (ve_mul (ve_ix (ve_var (i := 1) rfl) ve_int) (ve_ix (ve_var (i := 2) rfl) ve_int)) (va_cons true (ve_mul (ve_ix (ve_var (i := 1) rfl) ve_int) (ve_ix (ve_var (i := 2) rfl) ve_int)) va_nil))))))
theorem ok_multiply (T : T0 K mg) : ∃ fd, FnOk P w K mg base (L2.CX P w) 2 (He.ga K "multiply") fd ["prime", "a", "b"] (spV K [true, true, true] f_multiply) ∧ Binds K fd ["prime", "a", "b"] [] ∧ PySem.W.keepIn K (.ref (He.ga K "multiply")) = true := by
  obtain ⟨fd, F⟩ := fd_multiply T
  exact ⟨fd, fn_okV (bs := [true, true, true]) (m := m_multiply) (N := N_multiply) (k := 1) F sc_multiply rfl (body_multiply T), FunD.bindsN F fun _ _ _ _ _ _ us hl => match us, hl with | [_, _, _], _ => rfl, F.kp⟩
theorem sc_divide : FnScope N_divide ["prime", "a", "b"] (defScope (top 18)) := ⟨rfl, rfl, rfl, by decide +kernel, rfl, by decide +kernel, by decide +kernel⟩
theorem fd_divide (T : T0 K mg) : ∃ fd, FunD K "divide" "divide" (defArgs (top 18)) (defBody (top 18)) (defScope (top 18)) [] [] (He.ga K "divide") fd := by
  obtain ⟨fd, F⟩ := T.def_ 10 (d := d_divide) rfl
  exact ⟨fd, F⟩
theorem body_divide (T : T0 K mg) : ∀ (cdv : Value) (A : Around) (outer : List Env) (s : Shared) (H : Hp) (E : XK), Room 2 (A.deeper (envOfC "divide" (defScope (top 18)) s.heap.objs.size (He.ga K "divide") cdv)) →
    VSs (cxOf (L2.CX P w) P w K mg base N_divide "divide" (defScope (top 18)) (He.ga K "divide") cdv A outer s H E) (fun c d _ H => E c d H) (defBody (top 18)) m_divide := by
  intro cdv A outer s H E hr
  have tk := takes_of (X := cxOf (L2.CX P w) P w K mg base N_divide "divide" (defScope (top 18)) (He.ga K "divide") cdv A outer s H E) (E := E) rfl rfl rfl rfl
  obtain ⟨fd_multiply, o_multiply, b_multiply, k_multiply⟩ := ok_multiply (P := P) (w := w) (base := base) T
  obtain ⟨fd_invert, o_invert, b_invert, k_invert⟩ := ok_invert (P := P) (w := w) (base := base) T
  exact (vss_one (vs_ret (ve_call o_multiply (hr.mono (by decide)) rfl (g_multiply T) k_multiply b_multiply tk (va_cons true (ve_var (i := 0) rfl) (va_cons true (ve_var (i := 1) rfl) (va_cons true (ve_call o_invert (hr.mono (by decide)) rfl (g_invert T) k_invert b_invert tk (va_cons true (ve_var (i := 0) rfl) (va_cons true (ve_var (i := 2) rfl) va_nil))) va_nil))))))
theorem ok_divide (T : T0 K mg) : ∃ fd, FnOk P w K mg base (L2.CX P w) 3 (He.ga K "divide") fd ["prime", "a", "b"] (spV K [true, true, true] f_divide) ∧ Binds K fd ["prime", "a", "b"] [] ∧ PySem.W.keepIn K (.ref (He.ga K "divide")) = true := by
  obtain ⟨fd, F⟩ := fd_divide T
  exact ⟨fd, fn_okV (bs := [true, true, true]) (m := m_divide) (N := N_divide) (k := 2) F sc_divide rfl (body_divide T), FunD.bindsN F fun _ _ _ _ _ _ us hl => match us, hl with | [_, _, _], _ => rfl, F.kp⟩
theorem sc_ratio_of : FnScope N_ratio_of ["prime", "n", "d"] (defScope (top 19)) := ⟨rfl, rfl, rfl, by decide +kernel, rfl, by decide +kernel, by decide +kernel⟩
theorem fd_ratio_of (T : T0 K mg) : ∃ fd, FunD K "ratio_of" "ratio_of" (defArgs (top 19)) (defBody (top 19)) (defScope (top 19)) [] [] (He.ga K "ratio_of") fd := by
  obtain ⟨fd, F⟩ := T.def_ 11 (d := d_ratio_of) rfl
  exact ⟨fd, F⟩
theorem body_ratio_of (T : T0 K mg) : ∀ (cdv : Value) (A : Around) (outer : List Env) (s : Shared) (H : Hp) (E : XK), Room 3 (A.deeper (envOfC "ratio_of" (defScope (top 19)) s.heap.objs.size (He.ga K "ratio_of") cdv)) →
    VSs (cxOf (L2.CX P w) P w K mg base N_ratio_of "ratio_of" (defScope (top 19)) (He.ga K "ratio_of") cdv A outer s H E) (fun c d _ H => E c d H) (defBody (top 19)) m_ratio_of := by
  intro cdv A outer s H E hr
  have tk := takes_of (X := cxOf (L2.CX P w) P w K mg base N_ratio_of "ratio_of" (defScope (top 19)) (He.ga K "ratio_of") cdv A outer s H E) (E := E) rfl rfl rfl rfl
  obtain ⟨fd_divide, o_divide, b_divide, k_divide⟩ := ok_divide (P := P) (w := w) (base := base) T
  obtain ⟨fd_number_of, o_number_of, b_number_of, k_number_of⟩ := ok_number_of (P := P) (w := w) (base := base) T
  exact (vss_one (vs_ret (ve_call o_divide (hr.mono (by decide)) rfl (g_divide T) k_divide b_divide tk (va_cons true (ve_var (i := 0) rfl) (va_cons true (ve_call o_number_of (hr.mono (by decide)) rfl (g_number_of T) k_number_of b_number_of tk (va_cons true (ve_var (i := 0) rfl) (va_cons true (ve_var (i := 1) rfl) va_nil))) (va_cons true (ve_call o_number_of (hr.mono (by decide)) rfl (g_number_of T) k_number_of b_number_of tk (va_cons true (ve_var (i := 0) rfl) (va_cons true (ve_var (i := 2) rfl) va_nil))) va_nil))))))
theorem ok_ratio_of (T : T0 K mg) : ∃ fd, FnOk P w K mg base (L2.CX P w) 4 (He.ga K "ratio_of") fd ["prime", "n", "d"] (spV K [true, true, true] f_ratio_of) ∧ Binds K fd ["prime", "n", "d"] [] ∧ PySem.W.keepIn K (.ref (He.ga K "ratio_of")) = true := by
  obtain ⟨fd, F⟩ := fd_ratio_of T
  exact ⟨fd, fn_okV (bs := [true, true, true]) (m := m_ratio_of) (N := N_ratio_of) (k := 3) F sc_ratio_of rfl (body_ratio_of T), FunD.bindsN F fun _ _ _ _ _ _ us hl => match us, hl with | [_, _, _], _ => rfl, F.kp⟩
theorem sc__law_no_inverse : FnScope N__law_no_inverse ["prime", "zero", "number"] (defScope (top 30)) := ⟨rfl, rfl, rfl, by decide +kernel, rfl, by decide +kernel, by decide +kernel⟩
theorem fd__law_no_inverse (T : T0 K mg) : ∃ fd, FunD K "_law_no_inverse" "_law_no_inverse" (defArgs (top 30)) (defBody (top 30)) (defScope (top 30)) [] [] (He.ga K "_law_no_inverse") fd := by
  obtain ⟨fd, F⟩ := T.def_ 12 (d := d__law_no_inverse) rfl
  exact ⟨fd, F⟩
theorem body__law_no_inverse (T : T0 K mg) : ∀ (cdv : Value) (A : Around) (outer : List Env) (s : Shared) (H : Hp) (E : XK), Room 4 (A.deeper (envOfC "_law_no_inverse" (defScope (top 30)) s.heap.objs.size (He.ga K "_law_no_inverse") cdv)) →
    VSs (cxOf (L2.CX P w) P w K mg base N__law_no_inverse "_law_no_inverse" (defScope (top 30)) (He.ga K "_law_no_inverse") cdv A outer s H E) (fun c d _ H => E c d H) (defBody (top 30)) m__law_no_inverse := by
  intro cdv A outer s H E hr
  have tk := takes_of (X := cxOf (L2.CX P w) P w K mg base N__law_no_inverse "_law_no_inverse" (defScope (top 30)) (He.ga K "_law_no_inverse") cdv A outer s H E) (E := E) rfl rfl rfl rfl
  obtain ⟨fd_invert, o_invert, b_invert, k_invert⟩ := ok_invert (P := P) (w := w) (base := base) T
  obtain ⟨fd_divide, o_divide, b_divide, k_divide⟩ := ok_divide (P := P) (w := w) (base := base) T
  obtain ⟨fd_ratio_of, o_ratio_of, b_ratio_of, k_ratio_of⟩ := ok_ratio_of (P := P) (w := w) (base := base) T
  exact (vss_cons (vs_set (i := 3) sc__law_no_inverse.nd rfl (by first | exact Or.inl rfl | exact Or.inr rfl) ve_int)
  (vss_cons (vs_tryAs (i := 4) (mt := mt_NoInverse) rfl rfl rfl sc__law_no_inverse.nd rfl rfl ⟨rfl, by decide, .inl (g_NoInverse T)⟩ tk (mo_NoInverse T) (fun W pn xe tk po => (vss_one (vs_expr (ve_call o_invert (hr.mono (by decide)) rfl (g_invert T) k_invert b_invert tk (va_cons true (ve_var (i := 0) rfl) (va_cons true (ve_var (i := 1) rfl) va_nil)))))) (fun _ _ _ => (vss_one (vs_set (i := 3) sc__law_no_inverse.nd rfl (by first | exact Or.inl rfl | exact Or.inr rfl) (ve_add (ve_var (i := 3) rfl) (ve_cint rfl (n_int T) (va_cons true (ve_and (ve_isE (x_tb T) rfl (n_isinstance T) rfl (by first | exact Or.inl rfl | exact Or.inr (Or.inl rfl)) (ve_ty (t := .valueError) rfl (n_ValueError T) boot_ValueError)) (ve_one (ve_not (ve_isEs (x_tb T) rfl (n_isinstance T) rfl (by first | exact Or.inl rfl | exact Or.inr (Or.inl rfl)) (va_cons false (ve_glo ⟨rfl, glo_cls (g_InvalidField T)⟩) (va_cons false (ve_glo ⟨rfl, glo_cls (g_InvalidNumber T)⟩) va_nil)))))) va_nil)))))))
  (vss_cons (vs_tryAs (i := 4) (mt := mt_GridError) rfl rfl rfl sc__law_no_inverse.nd rfl rfl ⟨rfl, by decide, .inl (g_GridError T)⟩ tk (mo_GridError T) (fun W pn xe tk po => (vss_one (vs_expr (ve_call o_divide (hr.mono (by decide)) rfl (g_divide T) k_divide b_divide tk (va_cons true (ve_var (i := 0) rfl) (va_cons true (ve_var (i := 2) rfl) (va_cons true (ve_var (i := 1) rfl) va_nil))))))) (fun _ _ _ => (vss_one (vs_set (i := 3) sc__law_no_inverse.nd rfl (by first | exact Or.inl rfl | exact Or.inr rfl) (ve_add (ve_var (i := 3) rfl) (ve_cint rfl (n_int T) (va_cons true (ve_isE (x_tb T) rfl (n_isinstance T) rfl (by first | exact Or.inl rfl | exact Or.inr (Or.inl rfl)) (ve_glo ⟨rfl, glo_cls (g_NoInverse T)⟩)) va_nil)))))))
  (vss_cons (vs_try1 (mt := mt_NoInverse) rfl rfl rfl ⟨rfl, by decide, .inl (g_NoInverse T)⟩ tk (mo_NoInverse T) (fun W pn xe tk po => (vss_one (vs_expr (ve_call o_ratio_of (hr.mono (by decide)) rfl (g_ratio_of T) k_ratio_of b_ratio_of tk (va_cons true (ve_var (i := 0) rfl) (va_cons true ve_int (va_cons true ve_int va_nil))))))) (fun _ _ _ => (vss_one (vs_set (i := 3) sc__law_no_inverse.nd rfl (by first | exact Or.inl rfl | exact Or.inr rfl) (ve_add (ve_var (i := 3) rfl) ve_int)))))
  (vss_one (vs_ret (ve_eq (ru64 hr) (ve_var (i := 3) rfl) ve_int)))))))
theorem ok__law_no_inverse (T : T0 K mg) : ∃ fd, FnOk P w K mg base (L2.CX P w) 5 (He.ga K "_law_no_inverse") fd ["prime", "zero", "number"] (spV K [true, true, true] f__law_no_inverse) ∧ Binds K fd ["prime", "zero", "number"] [] ∧ PySem.W.keepIn K (.ref (He.ga K "_law_no_inverse")) = true := by
  obtain ⟨fd, F⟩ := fd__law_no_inverse T
  exact ⟨fd, fn_okV (bs := [true, true, true]) (m := m__law_no_inverse) (N := N__law_no_inverse) (k := 4) F sc__law_no_inverse rfl (body__law_no_inverse T), FunD.bindsN F fun _ _ _ _ _ _ us hl => match us, hl with | [_, _, _], _ => rfl, F.kp⟩
theorem sc_add : FnScope N_add ["prime", "a", "b"] (defScope (top 13)) := ⟨rfl, rfl, rfl, by decide +kernel, rfl, by decide +kernel, by decide +kernel⟩
theorem fd_add (T : T0 K mg) : ∃ fd, FunD K "add" "add" (defArgs (top 13)) (defBody (top 13)) (defScope (top 13)) [] [] (He.ga K "add") fd := by
  obtain ⟨fd, F⟩ := T.def_ 13 (d := d_add) rfl
  exact ⟨fd, F⟩
theorem body_add (T : T0 K mg) : ∀ (cdv : Value) (A : Around) (outer : List Env) (s : Shared) (H : Hp) (E : XK), Room 1 (A.deeper (envOfC "add" (defScope (top 13)) s.heap.objs.size (He.ga K "add") cdv)) →
    VSs (cxOf (L2.CX P w) P w K mg base N_add "add" (defScope (top 13)) (He.ga K "add") cdv A outer s H E) (fun c d _ H => E c d H) (defBody (top 13)) m_add := by
  intro cdv A outer s H E hr
  have tk := takes_of (X := cxOf (L2.CX P w) P w K mg base N_add "add" (defScope (top 13)) (He.ga K "add") cdv A outer s H E) (E := E) rfl rfl rfl rfl
  obtain ⟨fd_lowest, o_lowest, b_lowest, k_lowest⟩ := ok_lowest (P := P) (w := w) (base := base) T
  exact (vss_cons (vs_if (vt_gt (ve_var (i := 0) rfl) ve_int) (vss_one (vs_ret (ve_mod (ve_add (ve_var (i := 1) rfl) (ve_var (i := 2) rfl)) (ve_var (i := 0) rfl)))) vss_nil)
  (vss_one (vs_ret (ve_call o_lowest (hr.mono (by decide)) rfl (g_lowest T) k_lowest b_lowest tk (va_cons true (ve_add (ve_mul (ve_ix (ve_var (i := 1) rfl) ve_int) (ve_ix (ve_var (i := 2) rfl) ve_int)) (ve_mul (ve_ix (ve_var (i := 2) rfl) ve_int) (ve_ix (ve_var (i := 1) rfl) ve_int))) (va_cons true (ve_mul (ve_ix (ve_var (i := 1) rfl) ve_int) (ve_ix (ve_var (i := 2) rfl) ve_int)) va_nil))))))
theorem ok_add (T : T0 K mg) : ∃ fd, FnOk P w K mg base (L2.CX P w) 2 (He.ga K "add") fd ["prime", "a", "b"] (spV K [true, true, true] f_add) ∧ Binds K fd ["prime", "a", "b"] [] ∧ PySem.W.keepIn K (.ref (He.ga K "add")) = true := by
  obtain ⟨fd, F⟩ := fd_add T
  exact ⟨fd, fn_okV (bs := [true, true, true]) (m := m_add) (N := N_add) (k := 1) F sc_add rfl (body_add T), FunD.bindsN F fun _ _ _ _ _ _ us hl => match us, hl with | [_, _, _], _ => rfl, F.kp⟩
theorem sc_shifted : FnScope N_shifted ["prime", "row", "factor", "other"] (defScope (top 21)) := ⟨rfl, rfl, rfl, by decide +kernel, rfl, by decide +kernel, by decide +kernel⟩
theorem fd_shifted (T : T0 K mg) : ∃ fd, FunD K "shifted" "shifted" (defArgs (top 21)) (defBody (top 21)) (defScope (top 21)) [] [] (He.ga K "shifted") fd := by
  obtain ⟨fd, F⟩ := T.def_ 14 (d := d_shifted) rfl
  exact ⟨fd, F⟩
theorem body_shifted (T : T0 K mg) : ∀ (cdv : Value) (A : Around) (outer : List Env) (s : Shared) (H : Hp) (E : XK), Room 2 (A.deeper (envOfC "shifted" (defScope (top 21)) s.heap.objs.size (He.ga K "shifted") cdv)) →
    VSs (cxOf (L2.CX P w) P w K mg base N_shifted "shifted" (defScope (top 21)) (He.ga K "shifted") cdv A outer s H E) (fun c d _ H => E c d H) (defBody (top 21)) m_shifted := by
  intro cdv A outer s H E hr
  have tk := takes_of (X := cxOf (L2.CX P w) P w K mg base N_shifted "shifted" (defScope (top 21)) (He.ga K "shifted") cdv A outer s H E) (E := E) rfl rfl rfl rfl
  obtain ⟨fd_add, o_add, b_add, k_add⟩ := ok_add (P := P) (w := w) (base := base) T
  obtain ⟨fd_multiply, o_multiply, b_multiply, k_multiply⟩ := ok_multiply (P := P) (w := w) (base := base) T
  exact (vss_cons (vs_if (vt_gt (ve_var (i := 0) rfl) ve_int) (vss_one (vs_ret (ve_lc rfl sc_shifted.nd (vi_zip rfl (n_zip T) (va_it (ve_var (i := 1) rfl) (va_it (ve_var (i := 3) rfl) va_nil))) (blkOk_by (N := N_shifted) (sc := (defScope (top 21))) (own := [("a", 4), ("b", 5)]) (by decide +kernel)) (by decide) (vgc_tup rfl (vgsc_cons (vgc_name (i := 4) (fun _ _ _ _ _ => pg_name sc_shifted.nd rfl (by first | exact Or.inl rfl | exact Or.inr rfl))) (vgsc_cons (vgc_name (i := 5) (fun _ _ _ _ _ => pg_name sc_shifted.nd rfl (by first | exact Or.inl rfl | exact Or.inr rfl))) vgsc_nil))) (fun _ _ _ _ _ => vts_nil) (fun _ _ _ _ _ => (ve_mod (ve_add (ve_var (i := 4) rfl) (ve_mul (ve_var (i := 2) rfl) (ve_var (i := 5) rfl))) (ve_var (i := 0) rfl)))))) vss_nil)
  (vss_one (vs_ret (ve_lc rfl sc_shifted.nd (vi_zip rfl (n_zip T) (va_it (ve_var (i := 1) rfl) (va_it (ve_var (i := 3) rfl) va_nil))) (blkOk_by (N := N_shifted) (sc := (defScope (top 21))) (own := [("a", 4), ("b", 5)]) (by decide +kernel)) (by decide) (vgc_tup rfl (vgsc_cons (vgc_name (i := 4) (fun _ _ _ _ _ => pg_name sc_shifted.nd rfl (by first | exact Or.inl rfl | exact Or.inr rfl))) (vgsc_cons (vgc_name (i := 5) (fun _ _ _ _ _ => pg_name sc_shifted.nd rfl (by first | exact Or.inl rfl | exact Or.inr rfl))) vgsc_nil))) (fun _ _ _ _ _ => vts_nil) (fun _ _ _ _ _ => (ve_call o_add (hr.mono (by decide)) rfl (g_add T) k_add b_add takes_none5 (va_cons true (ve_var (i := 0) rfl) (va_cons true (ve_var (i := 4) rfl) (va_cons true (ve_call o_multiply (hr.mono (by decide)) rfl (g_multiply T) k_multiply b_multiply takes_none5 (va_cons true (ve_var (i := 0) rfl) (va_cons true (ve_var (i := 2) rfl) (va_cons true (ve_var (i := 5) rfl) va_nil)))) va_nil)))))))))
theorem ok_shifted (T : T0 K mg) : ∃ fd, FnOk P w K mg base (L2.CX P w) 3 (He.ga K "shifted") fd ["prime", "row", "factor", "other"] (spV K [true, true, true, true] f_shifted) ∧ Binds K fd ["prime", "row", "factor", "other"] [] ∧ PySem.W.keepIn K (.ref (He.ga K "shifted")) = true := by
  obtain ⟨fd, F⟩ := fd_shifted T
  exact ⟨fd, fn_okV (bs := [true, true, true, true]) (m := m_shifted) (N := N_shifted) (k := 2) F sc_shifted rfl (body_shifted T), FunD.bindsN F fun _ _ _ _ _ _ us hl => match us, hl with | [_, _, _, _], _ => rfl, F.kp⟩
theorem sc_dot : FnScope N_dot ["prime", "row", "other"] (defScope (top 22)) := ⟨rfl, rfl, rfl, by decide +kernel, rfl, by decide +kernel, by decide +kernel⟩
theorem fd_dot (T : T0 K mg) : ∃ fd, FunD K "dot" "dot" (defArgs (top 22)) (defBody (top 22)) (defScope (top 22)) [] [] (He.ga K "dot") fd := by
  obtain ⟨fd, F⟩ := T.def_ 15 (d := d_dot) rfl
  exact ⟨fd, F⟩
theorem body_dot (T : T0 K mg) : ∀ (cdv : Value) (A : Around) (outer : List Env) (s : Shared) (H : Hp) (E : XK), Room 2 (A.deeper (envOfC "dot" (defScope (top 22)) s.heap.objs.size (He.ga K "dot") cdv)) →
    VSs (cxOf (L2.CX P w) P w K mg base N_dot "dot" (defScope (top 22)) (He.ga K "dot") cdv A outer s H E) (fun c d _ H => E c d H) (defBody (top 22)) m_dot := by
  intro cdv A outer s H E hr
  have tk := takes_of (X := cxOf (L2.CX P w) P w K mg base N_dot "dot" (defScope (top 22)) (He.ga K "dot") cdv A outer s H E) (E := E) rfl rfl rfl rfl
  obtain ⟨fd_number_of, o_number_of, b_number_of, k_number_of⟩ := ok_number_of (P := P) (w := w) (base := base) T
  obtain ⟨fd_add, o_add, b_add, k_add⟩ := ok_add (P := P) (w := w) (base := base) T
  obtain ⟨fd_multiply, o_multiply, b_multiply, k_multiply⟩ := ok_multiply (P := P) (w := w) (base := base) T
  exact (vss_cons (vs_if (vt_gt (ve_var (i := 0) rfl) ve_int) (vss_one (vs_ret (ve_mod (ve_sum rfl rfl (n_sum T) (va_cons true (ve_lc rfl sc_dot.nd (vi_zip rfl (n_zip T) (va_it (ve_var (i := 1) rfl) (va_it (ve_var (i := 2) rfl) va_nil))) (blkOk_by (N := N_dot) (sc := (defScope (top 22))) (own := [("a", 4), ("b", 5)]) (by decide +kernel)) (by decide) (vgc_tup rfl (vgsc_cons (vgc_name (i := 4) (fun _ _ _ _ _ => pg_name sc_dot.nd rfl (by first | exact Or.inl rfl | exact Or.inr rfl))) (vgsc_cons (vgc_name (i := 5) (fun _ _ _ _ _ => pg_name sc_dot.nd rfl (by first | exact Or.inl rfl | exact Or.inr rfl))) vgsc_nil))) (fun _ _ _ _ _ => vts_nil) (fun _ _ _ _ _ => (ve_mul (ve_var (i := 4) rfl) (ve_var (i := 5) rfl)))) va_nil)) (ve_var (i := 0) rfl)))) vss_nil)
  (vss_cons (vs_set (i := 3) sc_dot.nd rfl (by first | exact Or.inl rfl | exact Or.inr rfl) (ve_call o_number_of (hr.mono (by decide)) rfl (g_number_of T) k_number_of b_number_of tk (va_cons true (ve_var (i := 0) rfl) (va_cons true ve_int va_nil))))
  (vss_cons (vs_for (passes_of rfl) rfl (vi_zip rfl (n_zip T) (va_it (ve_var (i := 1) rfl) (va_it (ve_var (i := 2) rfl) va_nil))) (vg_tup rfl (vgs_cons (vg_name (i := 4) sc_dot.nd rfl (by first | exact Or.inl rfl | exact Or.inr rfl)) (vgs_cons (vg_name (i := 5) sc_dot.nd rfl (by first | exact Or.inl rfl | exact Or.inr rfl)) vgs_nil))) (vss_one (vs_set (i := 3) sc_dot.nd rfl (by first | exact Or.inl rfl | exact Or.inr rfl) (ve_call o_add (hr.mono (by decide)) rfl (g_add T) k_add b_add tk (va_cons true (ve_var (i := 0) rfl) (va_cons true (ve_var (i := 3) rfl) (va_cons true (ve_call o_multiply (hr.mono (by decide)) rfl (g_multiply T) k_multiply b_multiply tk (va_cons true (ve_var (i := 0) rfl) (va_cons true (ve_var (i := 4) rfl) (va_cons true (ve_var (i := 5) rfl) va_nil)))) va_nil)))))))
  (vss_one (vs_ret (ve_var (i := 3) rfl))))))
theorem ok_dot (T : T0 K mg) : ∃ fd, FnOk P w K mg base (L2.CX P w) 3 (He.ga K "dot") fd ["prime", "row", "other"] (spV K [true, true, true] f_dot) ∧ Binds K fd ["prime", "row", "other"] [] ∧ PySem.W.keepIn K (.ref (He.ga K "dot")) = true := by
  obtain ⟨fd, F⟩ := fd_dot T
  exact ⟨fd, fn_okV (bs := [true, true, true]) (m := m_dot) (N := N_dot) (k := 2) F sc_dot rfl (body_dot T), FunD.bindsN F fun _ _ _ _ _ _ us hl => match us, hl with | [_, _, _], _ => rfl, F.kp⟩
theorem sc__law_rows : FnScope N__law_rows ["prime", "firsts", "seconds", "factor"] (defScope (top 31)) := ⟨rfl, rfl, rfl, by decide +kernel, rfl, by decide +kernel, by decide +kernel⟩
theorem fd__law_rows (T : T0 K mg) : ∃ fd, FunD K "_law_rows" "_law_rows" (defArgs (top 31)) (defBody (top 31)) (defScope (top 31)) [] [] (He.ga K "_law_rows") fd := by
  obtain ⟨fd, F⟩ := T.def_ 16 (d := d__law_rows) rfl
  exact ⟨fd, F⟩
theorem body__law_rows (T : T0 K mg) : ∀ (cdv : Value) (A : Around) (outer : List Env) (s : Shared) (H : Hp) (E : XK), Room 3 (A.deeper (envOfC "_law_rows" (defScope (top 31)) s.heap.objs.size (He.ga K "_law_rows") cdv)) →
    VSs (cxOf (L2.CX P w) P w K mg base N__law_rows "_law_rows" (defScope (top 31)) (He.ga K "_law_rows") cdv A outer s H E) (fun c d _ H => E c d H) (defBody (top 31)) m__law_rows := by
  intro cdv A outer s H E hr
  have tk := takes_of (X := cxOf (L2.CX P w) P w K mg base N__law_rows "_law_rows" (defScope (top 31)) (He.ga K "_law_rows") cdv A outer s H E) (E := E) rfl rfl rfl rfl
  obtain ⟨fd__law_number, o__law_number, b__law_number, k__law_number⟩ := ok__law_number (P := P) (w := w) (base := base) T
  obtain ⟨fd_shifted, o_shifted, b_shifted, k_shifted⟩ := ok_shifted (P := P) (w := w) (base := base) T
  obtain ⟨fd__law_same, o__law_same, b__law_same, k__law_same⟩ := ok__law_same (P := P) (w := w) (base := base) T
  obtain ⟨fd_dot, o_dot, b_dot, k_dot⟩ := ok_dot (P := P) (w := w) (base := base) T
  exact (vss_cons (vs_setLc (i := 4) rfl sc__law_rows.nd rfl rfl (sw_true rfl rfl rfl (by decide +kernel)) (vi_seq (ve_var (i := 1) rfl)) (blkOk_by (N := N__law_rows) (sc := (defScope (top 31))) (own := [("n", 9), ("d", 10)]) (by decide +kernel)) (by decide) (vgc_tup rfl (vgsc_cons (vgc_name (i := 9) (fun _ _ _ _ _ => pg_name sc__law_rows.nd rfl (by first | exact Or.inl rfl | exact Or.inr rfl))) (vgsc_cons (vgc_name (i := 10) (fun _ _ _ _ _ => pg_name sc__law_rows.nd rfl (by first | exact Or.inl rfl | exact Or.inr rfl))) vgsc_nil))) (fun _ _ _ _ _ => vts_nil) (fun _ _ _ _ _ => (ve_call o__law_number (hr.mono (by decide)) rfl (g__law_number T) k__law_number b__law_number takes_none5 (va_cons true (ve_var (i := 0) rfl) (va_cons true (ve_var (i := 9) rfl) (va_cons true (ve_var (i := 10) rfl) va_nil))))))
  (vss_cons (vs_setLc (i := 5) rfl sc__law_rows.nd rfl rfl (sw_true rfl rfl rfl (by decide +kernel)) (vi_seq (ve_var (i := 2) rfl)) (blkOk_by (N := N__law_rows) (sc := (defScope (top 31))) (own := [("n", 9), ("d", 10)]) (by decide +kernel)) (by decide) (vgc_tup rfl (vgsc_cons (vgc_name (i := 9) (fun _ _ _ _ _ => pg_name sc__law_rows.nd rfl (by first | exact Or.inl rfl | exact Or.inr rfl))) (vgsc_cons (vgc_name (i := 10) (fun _ _ _ _ _ => pg_name sc__law_rows.nd rfl (by first | exact Or.inl rfl | exact Or.inr rfl))) vgsc_nil))) (fun _ _ _ _ _ => vts_nil) (fun _ _ _ _ _ => (ve_call o__law_number (hr.mono (by decide)) rfl (g__law_number T) k__law_number b__law_number takes_none5 (va_cons true (ve_var (i := 0) rfl) (va_cons true (ve_var (i := 9) rfl) (va_cons true (ve_var (i := 10) rfl) va_nil))))))
  (vss_cons (vs_set (i := 6) sc__law_rows.nd rfl (by first | exact Or.inl rfl | exact Or.inr rfl) (ve_call o__law_number (hr.mono (by decide)) rfl (g__law_number T) k__law_number b__law_number tk (va_cons true (ve_var (i := 0) rfl) (va_cons true (ve_ix (ve_var (i := 3) rfl) ve_int) (va_cons true (ve_ix (ve_var (i := 3) rfl) ve_int) va_nil)))))
  (vss_cons (vs_set (i := 7) sc__law_rows.nd rfl (by first | exact Or.inl rfl | exact Or.inr rfl) (ve_lst (va_cons false (ve_list rfl (n_list T) (va_cons true (ve_var (i := 4) rfl) va_nil)) (va_cons false (ve_list rfl (n_list T) (va_cons true (ve_var (i := 5) rfl) va_nil)) va_nil))))
  (vss_cons (vs_set (i := 8) sc__law_rows.nd rfl (by first | exact Or.inl rfl | exact Or.inr rfl) (ve_call o_shifted (hr.mono (by decide)) rfl (g_shifted T) k_shifted b_shifted tk (va_cons true (ve_var (i := 0) rfl) (va_cons true (ve_var (i := 4) rfl) (va_cons true (ve_var (i := 6) rfl) (va_cons true (ve_var (i := 5) rfl) va_nil))))))
  (vss_cons (vs_if (VW.pt (vw_or (vt_not (vt_tru (ve_isi rfl (n_isinstance T) (va_cons true (ve_var (i := 8) rfl) (va_cons true (ve_ty (t := .list) rfl (n_list T) boot_list) va_nil))))) (vw_or (vt_ne (ru64 hr) (ve_len rfl (n_len T) (va_cons true (ve_var (i := 8) rfl) va_nil)) (ve_len rfl (n_len T) (va_cons true (ve_var (i := 4) rfl) va_nil))) (vw_or1 (vt_ne (ru64 hr) (ve_lst (va_cons false (ve_var (i := 4) rfl) (va_cons false (ve_var (i := 5) rfl) va_nil))) (ve_var (i := 7) rfl)))))) (vss_one (vs_ret ve_bl)) vss_nil)
  (vss_cons (vs_asg (ve_tup (va_cons false ve_int (va_cons false ve_int va_nil))) (vg_tup rfl (vgs_cons (vg_name (i := 9) sc__law_rows.nd rfl (by first | exact Or.inl rfl | exact Or.inr rfl)) (vgs_cons (vg_name (i := 10) sc__law_rows.nd rfl (by first | exact Or.inl rfl | exact Or.inr rfl)) vgs_nil))))
  (vss_cons (vs_for (passes_of rfl) rfl (vi_range1 rfl (n_range T) (va_cons true (ve_len rfl (n_len T) (va_cons true (ve_var (i := 4) rfl) va_nil)) va_nil)) (vg_name (i := 11) sc__law_rows.nd rfl (by first | exact Or.inl rfl | exact Or.inr rfl)) (vss_cons (vs_par (i := 12) (j := 13) rfl sc__law_rows.nd rfl rfl (by decide) rfl rfl (va_it (ve_ix (ve_var (i := 1) rfl) (ve_var (i := 11) rfl)) (va_it (ve_ix (ve_var (i := 2) rfl) (ve_var (i := 11) rfl)) va_nil)) rfl)
  (vss_cons (vs_set (i := 14) sc__law_rows.nd rfl (by first | exact Or.inl rfl | exact Or.inr rfl) (ve_tup (va_cons false (ve_add (ve_mul (ve_mul (ve_ix (ve_var (i := 12) rfl) ve_int) (ve_ix (ve_var (i := 3) rfl) ve_int)) (ve_ix (ve_var (i := 13) rfl) ve_int)) (ve_mul (ve_mul (ve_ix (ve_var (i := 3) rfl) ve_int) (ve_ix (ve_var (i := 13) rfl) ve_int)) (ve_ix (ve_var (i := 12) rfl) ve_int))) (va_cons false (ve_mul (ve_mul (ve_ix (ve_var (i := 12) rfl) ve_int) (ve_ix (ve_var (i := 3) rfl) ve_int)) (ve_ix (ve_var (i := 13) rfl) ve_int)) va_nil))))
  (vss_cons (vs_if (vt_not (vt_tru (ve_call o__law_same (hr.mono (by decide)) rfl (g__law_same T) k__law_same b__law_same tk (va_cons true (ve_var (i := 0) rfl) (va_cons true (ve_ix (ve_var (i := 8) rfl) (ve_var (i := 11) rfl)) (va_cons true (ve_call o__law_number (hr.mono (by decide)) rfl (g__law_number T) k__law_number b__law_number tk (va_cons true (ve_var (i := 0) rfl) (va_cons true (ve_ix (ve_var (i := 14) rfl) ve_int) (va_cons true (ve_ix (ve_var (i := 14) rfl) ve_int) va_nil)))) va_nil)))))) (vss_one (vs_ret ve_bl)) vss_nil)
  (vss_one (vs_par (i := 9) (j := 10) rfl sc__law_rows.nd rfl rfl (by decide) rfl rfl (va_it (ve_add (ve_mul (ve_mul (ve_var (i := 9) rfl) (ve_ix (ve_var (i := 12) rfl) ve_int)) (ve_ix (ve_var (i := 13) rfl) ve_int)) (ve_mul (ve_mul (ve_ix (ve_var (i := 12) rfl) ve_int) (ve_ix (ve_var (i := 13) rfl) ve_int)) (ve_var (i := 10) rfl))) (va_it (ve_mul (ve_mul (ve_var (i := 10) rfl) (ve_ix (ve_var (i := 12) rfl) ve_int)) (ve_ix (ve_var (i := 13) rfl) ve_int)) va_nil)) rfl))))))
  (vss_one (vs_ret (ve_and (ve_call o__law_same (hr.mono (by decide)) rfl (g__law_same T) k__law_same b__law_same tk (va_cons true (ve_var (i := 0) rfl) (va_cons true (ve_call o_dot (hr.mono (by decide)) rfl (g_dot T) k_dot b_dot tk (va_cons true (ve_var (i := 0) rfl) (va_cons true (ve_var (i := 4) rfl) (va_cons true (ve_var (i := 5) rfl) va_nil)))) (va_cons true (ve_call o__law_number (hr.mono (by decide)) rfl (g__law_number T) k__law_number b__law_number tk (va_cons true (ve_var (i := 0) rfl) (va_cons true (ve_var (i := 9) rfl) (va_cons true (ve_var (i := 10) rfl) va_nil)))) va_nil)))) (ve_one (ve_eq (ru64 hr) (ve_lst (va_cons false (ve_var (i := 4) rfl) (va_cons false (ve_var (i := 5) rfl) va_nil))) (ve_var (i := 7) rfl))))))))))))))
theorem ok__law_rows (T : T0 K mg) : ∃ fd, FnOk P w K mg base (L2.CX P w) 4 (He.ga K "_law_rows") fd ["prime", "firsts", "seconds", "factor"] (spV K [true, true, true, true] f__law_rows) ∧ Binds K fd ["prime", "firsts", "seconds", "factor"] [] ∧ PySem.W.keepIn K (.ref (He.ga K "_law_rows")) = true := by
  obtain ⟨fd, F⟩ := fd__law_rows T
  exact ⟨fd, fn_okV (bs := [true, true, true, true]) (m := m__law_rows) (N := N__law_rows) (k := 3) F sc__law_rows rfl (body__law_rows T), FunD.bindsN F fun _ _ _ _ _ _ us hl => match us, hl with | [_, _, _, _], _ => rfl, F.kp⟩
theorem sc_check_field : FnScope N_check_field ["prime"] (defScope (top 8)) := ⟨rfl, rfl, rfl, by decide +kernel, rfl, by decide +kernel, by decide +kernel⟩
theorem fd_check_field (T : T0 K mg) : ∃ fd, FunD K "check_field" "check_field" (defArgs (top 8)) (defBody (top 8)) (defScope (top 8)) [] [] (He.ga K "check_field") fd := by
  obtain ⟨fd, F⟩ := T.def_ 17 (d := d_check_field) rfl
  exact ⟨fd, F⟩
theorem body_check_field (T : T0 K mg) : ∀ (cdv : Value) (A : Around) (outer : List Env) (s : Shared) (H : Hp) (E : XK), Room 0 (A.deeper (envOfC "check_field" (defScope (top 8)) s.heap.objs.size (He.ga K "check_field") cdv)) →
    VSs (cxOf (L2.CX P w) P w K mg base N_check_field "check_field" (defScope (top 8)) (He.ga K "check_field") cdv A outer s H E) (fun c d _ H => E c d H) (defBody (top 8)) m_check_field := by
  intro cdv A outer s H E hr
  have tk := takes_of (X := cxOf (L2.CX P w) P w K mg base N_check_field "check_field" (defScope (top 8)) (He.ga K "check_field") cdv A outer s H E) (E := E) rfl rfl rfl rfl
  exact (vss_one (vs_if (VW.pt (vw_and (vt_ne (ru64 hr) (ve_var (i := 0) rfl) ve_int) (vw_and1 (vt_notIn (ru hr) (ve_var (i := 0) rfl) (ve_glo ⟨rfl, x_PRIMES T⟩))))) (vss_one (vs_raise rfl tk (mk_own (e_InvalidField T) (g_InvalidField T) rfl))) vss_nil))
theorem ok_check_field (T : T0 K mg) : ∃ fd, FnOk P w K mg base (L2.CX P w) 1 (He.ga K "check_field") fd ["prime"] (spV K [true] f_check_field) ∧ Binds K fd ["prime"] [] ∧ PySem.W.keepIn K (.ref (He.ga K "check_field")) = true := by
  obtain ⟨fd, F⟩ := fd_check_field T
  exact ⟨fd, fn_okV (bs := [true]) (m := m_check_field) (N := N_check_field) (k := 0) F sc_check_field rfl (body_check_field T), FunD.bindsN F fun _ _ _ _ _ _ us hl => match us, hl with | [_], _ => rfl, F.kp⟩
theorem sc__law_fields : FnScope N__law_fields ["n"] (defScope (top 32)) := ⟨rfl, rfl, rfl, by decide +kernel, rfl, by decide +kernel, by decide +kernel⟩
theorem fd__law_fields (T : T0 K mg) : ∃ fd, FunD K "_law_fields" "_law_fields" (defArgs (top 32)) (defBody (top 32)) (defScope (top 32)) [] [] (He.ga K "_law_fields") fd := by
  obtain ⟨fd, F⟩ := T.def_ 18 (d := d__law_fields) rfl
  exact ⟨fd, F⟩
theorem body__law_fields (T : T0 K mg) : ∀ (cdv : Value) (A : Around) (outer : List Env) (s : Shared) (H : Hp) (E : XK), Room 1 (A.deeper (envOfC "_law_fields" (defScope (top 32)) s.heap.objs.size (He.ga K "_law_fields") cdv)) →
    VSs (cxOf (L2.CX P w) P w K mg base N__law_fields "_law_fields" (defScope (top 32)) (He.ga K "_law_fields") cdv A outer s H E) (fun c d _ H => E c d H) (defBody (top 32)) m__law_fields := by
  intro cdv A outer s H E hr
  have tk := takes_of (X := cxOf (L2.CX P w) P w K mg base N__law_fields "_law_fields" (defScope (top 32)) (He.ga K "_law_fields") cdv A outer s H E) (E := E) rfl rfl rfl rfl
  obtain ⟨fd_check_field, o_check_field, b_check_field, k_check_field⟩ := ok_check_field (P := P) (w := w) (base := base) T
  exact (vss_cons (vs_set (i := 1) sc__law_fields.nd rfl (by first | exact Or.inl rfl | exact Or.inr rfl) ve_bl)
  (vss_cons (vs_tryAs (i := 2) (mt := mt_InvalidField) rfl rfl rfl sc__law_fields.nd rfl rfl ⟨rfl, by decide, .inl (g_InvalidField T)⟩ tk (mo_InvalidField T) (fun W pn xe tk po => (vss_one (vs_expr (ve_call o_check_field (hr.mono (by decide)) rfl (g_check_field T) k_check_field b_check_field tk (va_cons true (ve_var (i := 0) rfl) va_nil))))) (fun _ _ _ => (vss_one (vs_set (i := 1) sc__law_fields.nd rfl (by first | exact Or.inl rfl | exact Or.inr rfl) (ve_and (ve_isE (x_tb T) rfl (n_isinstance T) rfl (by first | exact Or.inl rfl | exact Or.inr (Or.inl rfl)) (ve_glo ⟨rfl, glo_cls (g_GridError T)⟩)) (ve_and (ve_isE (x_tb T) rfl (n_isinstance T) rfl (by first | exact Or.inl rfl | exact Or.inr (Or.inl rfl)) (ve_ty (t := .valueError) rfl (n_ValueError T) boot_ValueError)) (ve_one (ve_not (ve_isEs (x_tb T) rfl (n_isinstance T) rfl (by first | exact Or.inl rfl | exact Or.inr (Or.inl rfl)) (va_cons false (ve_glo ⟨rfl, glo_cls (g_NoInverse T)⟩) (va_cons false (ve_glo ⟨rfl, glo_cls (g_InvalidNumber T)⟩) va_nil)))))))))))
  (vss_one (vs_ret (ve_eq (ru64 hr) (ve_var (i := 1) rfl) (ve_notIn (ru hr) (ve_var (i := 0) rfl) (ve_tup (va_cons false ve_int (va_cons false ve_int (va_cons false ve_int (va_cons false ve_int (va_cons false ve_int (va_cons false ve_int va_nil)))))))))))))
theorem ok__law_fields (T : T0 K mg) : ∃ fd, FnOk P w K mg base (L2.CX P w) 2 (He.ga K "_law_fields") fd ["n"] (spV K [true] f__law_fields) ∧ Binds K fd ["n"] [] ∧ PySem.W.keepIn K (.ref (He.ga K "_law_fields")) = true := by
  obtain ⟨fd, F⟩ := fd__law_fields T
  exact ⟨fd, fn_okV (bs := [true]) (m := m__law_fields) (N := N__law_fields) (k := 1) F sc__law_fields rfl (body__law_fields T), FunD.bindsN F fun _ _ _ _ _ _ us hl => match us, hl with | [_], _ => rfl, F.kp⟩
theorem sc_is_integer : FnScope N_is_integer ["value"] (defScope (top 10)) := ⟨rfl, rfl, rfl, by decide +kernel, rfl, by decide +kernel, by decide +kernel⟩
theorem fd_is_integer (T : T0 K mg) : ∃ fd, FunD K "is_integer" "is_integer" (defArgs (top 10)) (defBody (top 10)) (defScope (top 10)) [] [] (He.ga K "is_integer") fd := by
  obtain ⟨fd, F⟩ := T.def_ 19 (d := d_is_integer) rfl
  exact ⟨fd, F⟩
theorem body_is_integer (T : T0 K mg) : ∀ (cdv : Value) (A : Around) (outer : List Env) (s : Shared) (H : Hp) (E : XK), Room 0 (A.deeper (envOfC "is_integer" (defScope (top 10)) s.heap.objs.size (He.ga K "is_integer") cdv)) →
    VSs (cxOf (L2.CX P w) P w K mg base N_is_integer "is_integer" (defScope (top 10)) (He.ga K "is_integer") cdv A outer s H E) (fun c d _ H => E c d H) (defBody (top 10)) m_is_integer := by
  intro cdv A outer s H E hr
  have tk := takes_of (X := cxOf (L2.CX P w) P w K mg base N_is_integer "is_integer" (defScope (top 10)) (He.ga K "is_integer") cdv A outer s H E) (E := E) rfl rfl rfl rfl
  exact (vss_one (vs_ret (ve_and (ve_isi rfl (n_isinstance T) (va_cons true (ve_var (i := 0) rfl) (va_cons true (ve_ty (t := .int) rfl (n_int T) boot_int) va_nil))) (ve_one (ve_not (ve_isi rfl (n_isinstance T) (va_cons true (ve_var (i := 0) rfl) (va_cons true (ve_ty (t := .bool) rfl (n_bool T) boot_bool) va_nil))))))))
theorem ok_is_integer (T : T0 K mg) : ∃ fd, FnOk P w K mg base (L2.CX P w) 1 (He.ga K "is_integer") fd ["value"] (spV K [true] f_is_integer) ∧ Binds K fd ["value"] [] ∧ PySem.W.keepIn K (.ref (He.ga K "is_integer")) = true := by
  obtain ⟨fd, F⟩ := fd_is_integer T
  exact ⟨fd, fn_okV (bs := [true]) (m := m_is_integer) (N := N_is_integer) (k := 0) F sc_is_integer rfl (body_is_integer T), FunD.bindsN F fun _ _ _ _ _ _ us hl => match us, hl with | [_], _ => rfl, F.kp⟩
theorem sc_is_number : FnScope N_is_number ["prime", "value"] (defScope (top 11)) := ⟨rfl, rfl, rfl, by decide +kernel, rfl, by decide +kernel, by decide +kernel⟩
theorem fd_is_number (T : T0 K mg) : ∃ fd, FunD K "is_number" "is_number" (defArgs (top 11)) (defBody (top 11)) (defScope (top 11)) [] [] (He.ga K "is_number") fd := by
  obtain ⟨fd, F⟩ := T.def_ 20 (d := d_is_number) rfl
  exact ⟨fd, F⟩
theorem body_is_number (T : T0 K mg) : ∀ (cdv : Value) (A : Around) (outer : List Env) (s : Shared) (H : Hp) (E : XK), Room 1 (A.deeper (envOfC "is_number" (defScope (top 11)) s.heap.objs.size (He.ga K "is_number") cdv)) →
    VSs (cxOf (L2.CX P w) P w K mg base N_is_number "is_number" (defScope (top 11)) (He.ga K "is_number") cdv A outer s H E) (fun c d _ H => E c d H) (defBody (top 11)) m_is_number := by
  intro cdv A outer s H E hr
  have tk := takes_of (X := cxOf (L2.CX P w) P w K mg base N_is_number "is_number" (defScope (top 11)) (He.ga K "is_number") cdv A outer s H E) (E := E) rfl rfl rfl rfl
  obtain ⟨fd_is_integer, o_is_integer, b_is_integer, k_is_integer⟩ := ok_is_integer (P := P) (w := w) (base := base) T
  exact (vss_cons (vs_if (vt_gt (ve_var (i := 0) rfl) ve_int) (vss_one (vs_ret (ve_and (ve_call o_is_integer (hr.mono (by decide)) rfl (g_is_integer T) k_is_integer b_is_integer tk (va_cons true (ve_var (i := 1) rfl) va_nil)) (ve_one (ve_chain op_le op_lt o_le o_lt ve_int (ve_var (i := 1) rfl) (ve_var (i := 0) rfl)))))) vss_nil)
  (vss_cons (vs_if (VW.pt (vw_or (vt_not (vt_tru (ve_isi rfl (n_isinstance T) (va_cons true (ve_var (i := 1) rfl) (va_cons true (ve_ty (t := .tuple) rfl (n_tuple T) boot_tuple) va_nil))))) (vw_or1 (vt_ne (ru64 hr) (ve_len rfl (n_len T) (va_cons true (ve_var (i := 1) rfl) va_nil)) ve_int)))) (vss_one (vs_ret ve_bl)) vss_nil)
  (vss_cons (vs_if (VW.pt (vw_or (vt_not (vt_tru (ve_call o_is_integer (hr.mono (by decide)) rfl (g_is_integer T) k_is_integer b_is_integer tk (va_cons true (ve_ix (ve_var (i := 1) rfl) ve_int) va_nil)))) (vw_or1 (vt_not (vt_tru (ve_call o_is_integer (hr.mono (by decide)) rfl (g_is_integer T) k_is_integer b_is_integer tk (va_cons true (ve_ix (ve_var (i := 1) rfl) ve_int) va_nil))))))) (vss_one (vs_ret ve_bl)) vss_nil)
  (vss_one (vs_ret (ve_and (ve_gt (ve_ix (ve_var (i := 1) rfl) ve_int) ve_int) (ve_one (ve_eq (ru64 hr) (ve_gcd rfl (bf_gcd T) (va_cons true (ve_ix (ve_var (i := 1) rfl) ve_int) (va_cons true (ve_ix (ve_var (i := 1) rfl) ve_int) va_nil))) ve_int))))))))
theorem ok_is_number (T : T0 K mg) : ∃ fd, FnOk P w K mg base (L2.CX P w) 2 (He.ga K "is_number") fd ["prime", "value"] (spV K [true, true] f_is_number) ∧ Binds K fd ["prime", "value"] [] ∧ PySem.W.keepIn K (.ref (He.ga K "is_number")) = true := by
  obtain ⟨fd, F⟩ := fd_is_number T
  exact ⟨fd, fn_okV (bs := [true, true]) (m := m_is_number) (N := N_is_number) (k := 1) F sc_is_number rfl (body_is_number T), FunD.bindsN F fun _ _ _ _ _ _ us hl => match us, hl with | [_, _], _ => rfl, F.kp⟩
theorem sc__law_kinds : FnScope N__law_kinds ["prime", "number", "n"] (defScope (top 33)) := ⟨rfl, rfl, rfl, by decide +kernel, rfl, by decide +kernel, by decide +kernel⟩
theorem fd__law_kinds (T : T0 K mg) : ∃ fd, FunD K "_law_kinds" "_law_kinds" (defArgs (top 33)) (defBody (top 33)) (defScope (top 33)) [] [] (He.ga K "_law_kinds") fd := by
  obtain ⟨fd, F⟩ := T.def_ 21 (d := d__law_kinds) rfl
  exact ⟨fd, F⟩
theorem body__law_kinds (T : T0 K mg) : ∀ (cdv : Value) (A : Around) (outer : List Env) (s : Shared) (H : Hp) (E : XK), Room 2 (A.deeper (envOfC "_law_kinds" (defScope (top 33)) s.heap.objs.size (He.ga K "_law_kinds") cdv)) →
    VSs (cxOf (L2.CX P w) P w K mg base N__law_kinds "_law_kinds" (defScope (top 33)) (He.ga K "_law_kinds") cdv A outer s H E) (fun c d _ H => E c d H) (defBody (top 33)) m__law_kinds := by
  intro cdv A outer s H E hr
  have tk := takes_of (X := cxOf (L2.CX P w) P w K mg base N__law_kinds "_law_kinds" (defScope (top 33)) (He.ga K "_law_kinds") cdv A outer s H E) (E := E) rfl rfl rfl rfl
  obtain ⟨fd_is_number, o_is_number, b_is_number, k_is_number⟩ := ok_is_number (P := P) (w := w) (base := base) T
  exact (vss_cons (vs_if (VW.pt (vw_or (vt_notB (ve_call o_is_number (hr.mono (by decide)) rfl (g_is_number T) k_is_number b_is_number tk (va_cons true (ve_var (i := 0) rfl) (va_cons true (ve_tup va_nil) va_nil))) ve_bl) (vw_or1 (vt_notB (ve_call o_is_number (hr.mono (by decide)) rfl (g_is_number T) k_is_number b_is_number tk (va_cons true (ve_var (i := 0) rfl) (va_cons true (ve_tup (va_cons false ve_int (va_cons false ve_int (va_cons false ve_int va_nil)))) va_nil))) ve_bl)))) (vss_one (vs_ret ve_bl)) vss_nil)
  (vss_cons (vs_if (vt_gt (ve_var (i := 0) rfl) ve_int) (vss_cons (vs_if (VW.pt (vw_or (vt_notB (ve_call o_is_number (hr.mono (by decide)) rfl (g_is_number T) k_is_number b_is_number tk (va_cons true (ve_var (i := 0) rfl) (va_cons true (ve_var (i := 1) rfl) va_nil))) ve_bl) (vw_or1 (vt_notB (ve_call o_is_number (hr.mono (by decide)) rfl (g_is_number T) k_is_number b_is_number tk (va_cons true (ve_var (i := 0) rfl) (va_cons true (ve_var (i := 0) rfl) va_nil))) ve_bl)))) (vss_one (vs_ret ve_bl)) vss_nil)
  (vss_cons (vs_set (i := 3) sc__law_kinds.nd rfl (by first | exact Or.inl rfl | exact Or.inr rfl) (ve_call o_is_number (hr.mono (by decide)) rfl (g_is_number T) k_is_number b_is_number tk (va_cons true (ve_var (i := 0) rfl) (va_cons true (ve_var (i := 2) rfl) va_nil))))
  (vss_one (vs_ret (ve_and (ve_isi rfl (n_isinstance T) (va_cons true (ve_var (i := 3) rfl) (va_cons true (ve_ty (t := .bool) rfl (n_bool T) boot_bool) va_nil))) (ve_and (ve_eq (ru64 hr) (ve_var (i := 3) rfl) (ve_chain op_le op_lt o_le o_lt ve_int (ve_var (i := 2) rfl) (ve_var (i := 0) rfl))) (ve_one (ve_isB (ve_call o_is_number (hr.mono (by decide)) rfl (g_is_number T) k_is_number b_is_number tk (va_cons true (ve_var (i := 0) rfl) (va_cons true (ve_tup (va_cons false (ve_var (i := 1) rfl) (va_cons false ve_int va_nil))) va_nil))) ve_bl)))))))) vss_nil)
  (vss_cons (vs_if (VW.pt (vw_or (vt_notB (ve_call o_is_number (hr.mono (by decide)) rfl (g_is_number T) k_is_number b_is_number tk (va_cons true ve_int (va_cons true (ve_var (i := 1) rfl) va_nil))) ve_bl) (vw_or1 (vt_notB (ve_call o_is_number (hr.mono (by decide)) rfl (g_is_number T) k_is_number b_is_number tk (va_cons true ve_int (va_cons true (ve_var (i := 2) rfl) va_nil))) ve_bl)))) (vss_one (vs_ret ve_bl)) vss_nil)
  (vss_cons (vs_if (VW.pt (vw_or (vt_notB (ve_call o_is_number (hr.mono (by decide)) rfl (g_is_number T) k_is_number b_is_number tk (va_cons true ve_int (va_cons true (ve_tup (va_cons false (ve_mul ve_int (ve_ix (ve_var (i := 1) rfl) ve_int)) (va_cons false (ve_mul ve_int (ve_ix (ve_var (i := 1) rfl) ve_int)) va_nil))) va_nil))) ve_bl) (vw_or1 (vt_notB (ve_call o_is_number (hr.mono (by decide)) rfl (g_is_number T) k_is_number b_is_number tk (va_cons true ve_int (va_cons true (ve_tup (va_cons false (ve_ix (ve_var (i := 1) rfl) ve_int) (va_cons false ve_int va_nil))) va_nil))) ve_bl)))) (vss_one (vs_ret ve_bl)) vss_nil)
  (vss_one (vs_ret (ve_and (ve_isB (ve_call o_is_number (hr.mono (by decide)) rfl (g_is_number T) k_is_number b_is_number tk (va_cons true ve_int (va_cons true (ve_tup (va_cons false (ve_neg (ve_ix (ve_var (i := 1) rfl) ve_int)) (va_cons false (ve_neg (ve_ix (ve_var (i := 1) rfl) ve_int)) va_nil))) va_nil))) ve_bl) (ve_one (ve_isB (ve_call o_is_number (hr.mono (by decide)) rfl (g_is_number T) k_is_number b_is_number tk (va_cons true ve_int (va_cons true (ve_tup (va_cons false (ve_ix (ve_var (i := 1) rfl) ve_int) va_nil)) va_nil))) ve_bl)))))))))
theorem ok__law_kinds (T : T0 K mg) : ∃ fd, FnOk P w K mg base (L2.CX P w) 3 (He.ga K "_law_kinds") fd ["prime", "number", "n"] (spV K [true, true, true] f__law_kinds) ∧ Binds K fd ["prime", "number", "n"] [] ∧ PySem.W.keepIn K (.ref (He.ga K "_law_kinds")) = true := by
  obtain ⟨fd, F⟩ := fd__law_kinds T
  exact ⟨fd, fn_okV (bs := [true, true, true]) (m := m__law_kinds) (N := N__law_kinds) (k := 2) F sc__law_kinds rfl (body__law_kinds T), FunD.bindsN F fun _ _ _ _ _ _ us hl => match us, hl with | [_, _, _], _ => rfl, F.kp⟩
theorem sc_negate : FnScope N_negate ["prime", "a"] (defScope (top 14)) := ⟨rfl, rfl, rfl, by decide +kernel, rfl, by decide +kernel, by decide +kernel⟩
theorem fd_negate (T : T0 K mg) : ∃ fd, FunD K "negate" "negate" (defArgs (top 14)) (defBody (top 14)) (defScope (top 14)) [] [] (He.ga K "negate") fd := by
  obtain ⟨fd, F⟩ := T.def_ 22 (d := d_negate) rfl
  exact ⟨fd, F⟩
theorem body_negate (T : T0 K mg) : ∀ (cdv : Value) (A : Around) (outer : List Env) (s : Shared) (H : Hp) (E : XK), Room 0 (A.deeper (envOfC "negate" (defScope (top 14)) s.heap.objs.size (He.ga K "negate") cdv)) →
    VSs (cxOf (L2.CX P w) P w K mg base N_negate "negate" (defScope (top 14)) (He.ga K "negate") cdv A outer s H E) (fun c d _ H => E c d H) (defBody (top 14)) m_negate := by
  intro cdv A outer s H E hr
  have tk := takes_of (X := cxOf (L2.CX P w) P w K mg base N_negate "negate" (defScope (top 14)) (He.ga K "negate") cdv A outer s H E) (E := E) rfl rfl rfl rfl
  exact (vss_cons (vs_if (vt_gt (ve_var (i := 0) rfl) ve_int) (vss_one (vs_ret (ve_mod (ve_sub (ve_var (i := 0) rfl) (ve_var (i := 1) rfl)) (ve_var (i := 0) rfl)))) vss_nil)
  (vss_one (vs_ret (ve_tup (va_cons false (ve_neg (ve_ix (ve_var (i := 1) rfl) ve_int)) (va_cons false (ve_ix (ve_var (i := 1) rfl) ve_int) va_nil))))))
theorem ok_negate (T : T0 K mg) : ∃ fd, FnOk P w K mg base (L2.CX P w) 1 (He.ga K "negate") fd ["prime", "a"] (spV K [true, true] f_negate) ∧ Binds K fd ["prime", "a"] [] ∧ PySem.W.keepIn K (.ref (He.ga K "negate")) = true := by
  obtain ⟨fd, F⟩ := fd_negate T
  exact ⟨fd, fn_okV (bs := [true, true]) (m := m_negate) (N := N_negate) (k := 0) F sc_negate rfl (body_negate T), FunD.bindsN F fun _ _ _ _ _ _ us hl => match us, hl with | [_, _], _ => rfl, F.kp⟩
theorem sc_raise_to : FnScope N_raise_to ["prime", "a", "power"] (defScope (top 20)) := ⟨rfl, rfl, rfl, by decide +kernel, rfl, by decide +kernel, by decide +kernel⟩
theorem fd_raise_to (T : T0 K mg) : ∃ fd, FunD K "raise_to" "raise_to" (defArgs (top 20)) (defBody (top 20)) (defScope (top 20)) [] [] (He.ga K "raise_to") fd := by
  obtain ⟨fd, F⟩ := T.def_ 23 (d := d_raise_to) rfl
  exact ⟨fd, F⟩
theorem body_raise_to (T : T0 K mg) : ∀ (cdv : Value) (A : Around) (outer : List Env) (s : Shared) (H : Hp) (E : XK), Room 2 (A.deeper (envOfC "raise_to" (defScope (top 20)) s.heap.objs.size (He.ga K "raise_to") cdv)) →
    VSs (cxOf (L2.CX P w) P w K mg base N_raise_to "raise_to" (defScope (top 20)) (He.ga K "raise_to") cdv A outer s H E) (fun c d _ H => E c d H) (defBody (top 20)) m_raise_to := by
  intro cdv A outer s H E hr
  have tk := takes_of (X := cxOf (L2.CX P w) P w K mg base N_raise_to "raise_to" (defScope (top 20)) (He.ga K "raise_to") cdv A outer s H E) (E := E) rfl rfl rfl rfl
  obtain ⟨fd_number_of, o_number_of, b_number_of, k_number_of⟩ := ok_number_of (P := P) (w := w) (base := base) T
  obtain ⟨fd_multiply, o_multiply, b_multiply, k_multiply⟩ := ok_multiply (P := P) (w := w) (base := base) T
  exact (vss_cons (vs_set (i := 3) sc_raise_to.nd rfl (by first | exact Or.inl rfl | exact Or.inr rfl) (ve_call o_number_of (hr.mono (by decide)) rfl (g_number_of T) k_number_of b_number_of tk (va_cons true (ve_var (i := 0) rfl) (va_cons true ve_int va_nil))))
  (vss_cons (vs_for (passes_of rfl) rfl (vi_range1 rfl (n_range T) (va_cons true (ve_var (i := 2) rfl) va_nil)) (vg_name (i := 4) sc_raise_to.nd rfl (by first | exact Or.inl rfl | exact Or.inr rfl)) (vss_one (vs_set (i := 3) sc_raise_to.nd rfl (by first | exact Or.inl rfl | exact Or.inr rfl) (ve_call o_multiply (hr.mono (by decide)) rfl (g_multiply T) k_multiply b_multiply tk (va_cons true (ve_var (i := 0) rfl) (va_cons true (ve_var (i := 3) rfl) (va_cons true (ve_var (i := 1) rfl) va_nil)))))))
  (vss_one (vs_ret (ve_var (i := 3) rfl)))))
theorem ok_raise_to (T : T0 K mg) : ∃ fd, FnOk P w K mg base (L2.CX P w) 3 (He.ga K "raise_to") fd ["prime", "a", "power"] (spV K [true, true, true] f_raise_to) ∧ Binds K fd ["prime", "a", "power"] [] ∧ PySem.W.keepIn K (.ref (He.ga K "raise_to")) = true := by
  obtain ⟨fd, F⟩ := fd_raise_to T
  exact ⟨fd, fn_okV (bs := [true, true, true]) (m := m_raise_to) (N := N_raise_to) (k := 2) F sc_raise_to rfl (body_raise_to T), FunD.bindsN F fun _ _ _ _ _ _ us hl => match us, hl with | [_, _, _], _ => rfl, F.kp⟩
theorem sc_subtract : FnScope N_subtract ["prime", "a", "b"] (defScope (top 15)) := ⟨rfl, rfl, rfl, by decide +kernel, rfl, by decide +kernel, by decide +kernel⟩
theorem fd_subtract (T : T0 K mg) : ∃ fd, FunD K "subtract" "subtract" (defArgs (top 15)) (defBody (top 15)) (defScope (top 15)) [] [] (He.ga K "subtract") fd := by
  obtain ⟨fd, F⟩ := T.def_ 24 (d := d_subtract) rfl
  exact ⟨fd, F⟩
theorem body_subtract (T : T0 K mg) : ∀ (cdv : Value) (A : Around) (outer : List Env) (s : Shared) (H : Hp) (E : XK), Room 2 (A.deeper (envOfC "subtract" (defScope (top 15)) s.heap.objs.size (He.ga K "subtract") cdv)) →
    VSs (cxOf (L2.CX P w) P w K mg base N_subtract "subtract" (defScope (top 15)) (He.ga K "subtract") cdv A outer s H E) (fun c d _ H => E c d H) (defBody (top 15)) m_subtract := by
  intro cdv A outer s H E hr
  have tk := takes_of (X := cxOf (L2.CX P w) P w K mg base N_subtract "subtract" (defScope (top 15)) (He.ga K "subtract") cdv A outer s H E) (E := E) rfl rfl rfl rfl
  obtain ⟨fd_add, o_add, b_add, k_add⟩ := ok_add (P := P) (w := w) (base := base) T
  obtain ⟨fd_negate, o_negate, b_negate, k_negate⟩ := ok_negate (P := P) (w := w) (base := base) T
  exact (vss_one (vs_ret (ve_call o_add (hr.mono (by decide)) rfl (g_add T) k_add b_add tk (va_cons true (ve_var (i := 0) rfl) (va_cons true (ve_var (i := 1) rfl) (va_cons true (ve_call o_negate (hr.mono (by decide)) rfl (g_negate T) k_negate b_negate tk (va_cons true (ve_var (i := 0) rfl) (va_cons true (ve_var (i := 2) rfl) va_nil))) va_nil))))))
theorem ok_subtract (T : T0 K mg) : ∃ fd, FnOk P w K mg base (L2.CX P w) 3 (He.ga K "subtract") fd ["prime", "a", "b"] (spV K [true, true, true] f_subtract) ∧ Binds K fd ["prime", "a", "b"] [] ∧ PySem.W.keepIn K (.ref (He.ga K "subtract")) = true := by
  obtain ⟨fd, F⟩ := fd_subtract T
  exact ⟨fd, fn_okV (bs := [true, true, true]) (m := m_subtract) (N := N_subtract) (k := 2) F sc_subtract rfl (body_subtract T), FunD.bindsN F fun _ _ _ _ _ _ us hl => match us, hl with | [_, _, _], _ => rfl, F.kp⟩
theorem sc_law : FnScope N_law ["script"] (defScope (top 34)) := ⟨rfl, rfl, rfl, by decide +kernel, rfl, by decide +kernel, by decide +kernel⟩
theorem fd_law (T : T0 K mg) : ∃ fd, FunD K "law" "law" (defArgs (top 34)) (defBody (top 34)) (defScope (top 34)) [] [] (He.ga K "law") fd := by
  obtain ⟨fd, F⟩ := T.def_ 25 (d := d_law) rfl
  exact ⟨fd, F⟩
theorem body_law (T : T0 K mg) : ∀ (cdv : Value) (A : Around) (outer : List Env) (s : Shared) (H : Hp) (E : XK), Room 5 (A.deeper (envOfC "law" (defScope (top 34)) s.heap.objs.size (He.ga K "law") cdv)) →
    VSs (cxOf (L2.CX P w) P w K mg base N_law "law" (defScope (top 34)) (He.ga K "law") cdv A outer s H E) (fun c d _ H => E c d H) (defBody (top 34)) m_law := by
  intro cdv A outer s H E hr
  have tk := takes_of (X := cxOf (L2.CX P w) P w K mg base N_law "law" (defScope (top 34)) (He.ga K "law") cdv A outer s H E) (E := E) rfl rfl rfl rfl
  obtain ⟨fd__law_pool, o__law_pool, b__law_pool, k__law_pool⟩ := ok__law_pool (P := P) (w := w) (base := base) T
  obtain ⟨fd__law_number, o__law_number, b__law_number, k__law_number⟩ := ok__law_number (P := P) (w := w) (base := base) T
  obtain ⟨fd__law_pair, o__law_pair, b__law_pair, k__law_pair⟩ := ok__law_pair (P := P) (w := w) (base := base) T
  obtain ⟨fd__law_same, o__law_same, b__law_same, k__law_same⟩ := ok__law_same (P := P) (w := w) (base := base) T
  obtain ⟨fd__law_no_inverse, o__law_no_inverse, b__law_no_inverse, k__law_no_inverse⟩ := ok__law_no_inverse (P := P) (w := w) (base := base) T
  obtain ⟨fd__law_rows, o__law_rows, b__law_rows, k__law_rows⟩ := ok__law_rows (P := P) (w := w) (base := base) T
  obtain ⟨fd_check_field, o_check_field, b_check_field, k_check_field⟩ := ok_check_field (P := P) (w := w) (base := base) T
  obtain ⟨fd__law_fields, o__law_fields, b__law_fields, k__law_fields⟩ := ok__law_fields (P := P) (w := w) (base := base) T
  obtain ⟨fd__law_kinds, o__law_kinds, b__law_kinds, k__law_kinds⟩ := ok__law_kinds (P := P) (w := w) (base := base) T
  obtain ⟨fd_negate, o_negate, b_negate, k_negate⟩ := ok_negate (P := P) (w := w) (base := base) T
  obtain ⟨fd_multiply, o_multiply, b_multiply, k_multiply⟩ := ok_multiply (P := P) (w := w) (base := base) T
  obtain ⟨fd_raise_to, o_raise_to, b_raise_to, k_raise_to⟩ := ok_raise_to (P := P) (w := w) (base := base) T
  obtain ⟨fd_number_of, o_number_of, b_number_of, k_number_of⟩ := ok_number_of (P := P) (w := w) (base := base) T
  obtain ⟨fd_add, o_add, b_add, k_add⟩ := ok_add (P := P) (w := w) (base := base) T
  obtain ⟨fd_subtract, o_subtract, b_subtract, k_subtract⟩ := ok_subtract (P := P) (w := w) (base := base) T
  obtain ⟨fd_invert, o_invert, b_invert, k_invert⟩ := ok_invert (P := P) (w := w) (base := base) T
  obtain ⟨fd_divide, o_divide, b_divide, k_divide⟩ := ok_divide (P := P) (w := w) (base := base) T
  obtain ⟨fd_ratio_of, o_ratio_of, b_ratio_of, k_ratio_of⟩ := ok_ratio_of (P := P) (w := w) (base := base) T
  exact (vss_cons (vs_set (i := 1) sc_law.nd rfl (by first | exact Or.inl rfl | exact Or.inr rfl) (ve_call o__law_pool (hr.mono (by decide)) rfl (g__law_pool T) k__law_pool b__law_pool tk (va_cons true (ve_var (i := 0) rfl) (va_cons true ve_int va_nil))))
  (vss_cons (vs_set (i := 2) sc_law.nd rfl (by first | exact Or.inl rfl | exact Or.inr rfl) (ve_ix (ve_tup (va_cons false ve_int (va_cons false ve_int (va_cons false ve_int (va_cons false ve_int (va_cons false ve_int (va_cons false ve_int va_nil))))))) (ve_mod (ve_ix (ve_var (i := 1) rfl) ve_int) ve_int)))
  (vss_cons (vs_asg (ve_tup (va_cons false (ve_eq (ru64 hr) (ve_mod (ve_ix (ve_var (i := 1) rfl) ve_int) ve_int) ve_int) (va_cons false (ve_add (ve_mul (ve_sub (ve_ix (ve_var (i := 1) rfl) ve_int) ve_int) (ve_pow ve_int ve_int)) (ve_ix (ve_var (i := 1) rfl) ve_int)) va_nil))) (vg_tup rfl (vgs_cons (vg_name (i := 3) sc_law.nd rfl (by first | exact Or.inl rfl | exact Or.inr rfl)) (vgs_cons (vg_name (i := 4) sc_law.nd rfl (by first | exact Or.inl rfl | exact Or.inr rfl)) vgs_nil))))
  (vss_cons (vs_par (i := 5) (j := 6) rfl sc_law.nd rfl rfl (by decide) rfl rfl (va_it (ve_call o__law_pair (hr.mono (by decide)) rfl (g__law_pair T) k__law_pair b__law_pair tk (va_cons true (ve_var (i := 1) rfl) (va_cons true ve_int (va_cons true (ve_var (i := 2) rfl) (va_cons true (ve_var (i := 3) rfl) va_nil))))) (va_it (ve_call o__law_pair (hr.mono (by decide)) rfl (g__law_pair T) k__law_pair b__law_pair tk (va_cons true (ve_var (i := 1) rfl) (va_cons true ve_int (va_cons true (ve_var (i := 2) rfl) (va_cons true (ve_var (i := 3) rfl) va_nil))))) va_nil)) rfl)
  (vss_cons (vs_set (i := 7) sc_law.nd rfl (by first | exact Or.inl rfl | exact Or.inr rfl) (ve_mod (ve_ix (ve_var (i := 1) rfl) ve_int) (ve_if (vt_eq (ru64 hr) (ve_mod (ve_ix (ve_var (i := 1) rfl) ve_int) ve_int) ve_int) ve_int ve_int)))
  (vss_cons (vs_par (i := 8) (j := 9) rfl sc_law.nd rfl rfl (by decide) rfl rfl (va_it (ve_call o__law_number (hr.mono (by decide)) rfl (g__law_number T) k__law_number b__law_number tk (va_cons true (ve_var (i := 2) rfl) (va_cons true (ve_ix (ve_var (i := 5) rfl) ve_int) (va_cons true (ve_ix (ve_var (i := 5) rfl) ve_int) va_nil)))) (va_it (ve_call o__law_number (hr.mono (by decide)) rfl (g__law_number T) k__law_number b__law_number tk (va_cons true (ve_var (i := 2) rfl) (va_cons true (ve_ix (ve_var (i := 6) rfl) ve_int) (va_cons true (ve_ix (ve_var (i := 6) rfl) ve_int) va_nil)))) va_nil)) rfl)
  (vss_cons (vs_if (VW.pt (vw_or (vt_notN (ve_call o_check_field (hr.mono (by decide)) rfl (g_check_field T) k_check_field b_check_field tk (va_cons true (ve_var (i := 2) rfl) va_nil)) ve_non) (vw_or (vt_not (vt_tru (ve_call o__law_fields (hr.mono (by decide)) rfl (g__law_fields T) k__law_fields b__law_fields tk (va_cons true (ve_sub (ve_mod (ve_ix (ve_var (i := 1) rfl) ve_int) ve_int) ve_int) va_nil)))) (vw_or1 (vt_not (vt_tru (ve_call o__law_kinds (hr.mono (by decide)) rfl (g__law_kinds T) k__law_kinds b__law_kinds tk (va_cons true (ve_var (i := 2) rfl) (va_cons true (ve_var (i := 8) rfl) (va_cons true (ve_ix (ve_var (i := 5) rfl) ve_int) va_nil)))))))))) (vss_one (vs_ret ve_bl)) vss_nil)
  (vss_cons (vs_if (VW.pt (vw_or (vt_not (vt_tru (ve_call o__law_fields (hr.mono (by decide)) rfl (g__law_fields T) k__law_fields b__law_fields tk (va_cons true (ve_var (i := 4) rfl) va_nil)))) (vw_or (vt_not (vt_tru (ve_call o__law_fields (hr.mono (by decide)) rfl (g__law_fields T) k__law_fields b__law_fields tk (va_cons true (ve_neg (ve_var (i := 4) rfl)) va_nil)))) (vw_or1 (vt_not (vt_tru (ve_call o__law_kinds (hr.mono (by decide)) rfl (g__law_kinds T) k__law_kinds b__law_kinds tk (va_cons true (ve_var (i := 2) rfl) (va_cons true (ve_var (i := 8) rfl) (va_cons true (ve_var (i := 4) rfl) va_nil)))))))))) (vss_one (vs_ret ve_bl)) vss_nil)
  (vss_cons (vs_for (passes_of rfl) rfl (vi_seq (ve_tup (va_cons false (ve_ix (ve_var (i := 5) rfl) ve_int) (va_cons false (ve_var (i := 4) rfl) va_nil)))) (vg_name (i := 10) sc_law.nd rfl (by first | exact Or.inl rfl | exact Or.inr rfl)) (vss_one (vs_if (vt_not (vt_tru (ve_call o__law_same (hr.mono (by decide)) rfl (g__law_same T) k__law_same b__law_same tk (va_cons true (ve_var (i := 2) rfl) (va_cons true (ve_call o_number_of (hr.mono (by decide)) rfl (g_number_of T) k_number_of b_number_of tk (va_cons true (ve_var (i := 2) rfl) (va_cons true (ve_var (i := 10) rfl) va_nil))) (va_cons true (ve_call o__law_number (hr.mono (by decide)) rfl (g__law_number T) k__law_number b__law_number tk (va_cons true (ve_var (i := 2) rfl) (va_cons true (ve_var (i := 10) rfl) (va_cons true ve_int va_nil)))) va_nil)))))) (vss_one (vs_ret ve_bl)) vss_nil)))
  (vss_cons (vs_set (i := 11) sc_law.nd rfl (by first | exact Or.inl rfl | exact Or.inr rfl) (ve_call o__law_number (hr.mono (by decide)) rfl (g__law_number T) k__law_number b__law_number tk (va_cons true (ve_var (i := 2) rfl) (va_cons true (ve_add (ve_mul (ve_ix (ve_var (i := 5) rfl) ve_int) (ve_ix (ve_var (i := 6) rfl) ve_int)) (ve_mul (ve_ix (ve_var (i := 6) rfl) ve_int) (ve_ix (ve_var (i := 5) rfl) ve_int))) (va_cons true (ve_mul (ve_ix (ve_var (i := 5) rfl) ve_int) (ve_ix (ve_var (i := 6) rfl) ve_int)) va_nil)))))
  (vss_cons (vs_set (i := 12) sc_law.nd rfl (by first | exact Or.inl rfl | exact Or.inr rfl) (ve_call o__law_number (hr.mono (by decide)) rfl (g__law_number T) k__law_number b__law_number tk (va_cons true (ve_var (i := 2) rfl) (va_cons true (ve_sub (ve_mul (ve_ix (ve_var (i := 5) rfl) ve_int) (ve_ix (ve_var (i := 6) rfl) ve_int)) (ve_mul (ve_ix (ve_var (i := 6) rfl) ve_int) (ve_ix (ve_var (i := 5) rfl) ve_int))) (va_cons true (ve_mul (ve_ix (ve_var (i := 5) rfl) ve_int) (ve_ix (ve_var (i := 6) rfl) ve_int)) va_nil)))))
  (vss_cons (vs_if (VW.pt (vw_or (vt_not (vt_tru (ve_call o__law_same (hr.mono (by decide)) rfl (g__law_same T) k__law_same b__law_same tk (va_cons true (ve_var (i := 2) rfl) (va_cons true (ve_call o_add (hr.mono (by decide)) rfl (g_add T) k_add b_add tk (va_cons true (ve_var (i := 2) rfl) (va_cons true (ve_var (i := 8) rfl) (va_cons true (ve_var (i := 9) rfl) va_nil)))) (va_cons true (ve_var (i := 11) rfl) va_nil)))))) (vw_or1 (vt_not (vt_tru (ve_call o__law_same (hr.mono (by decide)) rfl (g__law_same T) k__law_same b__law_same tk (va_cons true (ve_var (i := 2) rfl) (va_cons true (ve_call o_subtract (hr.mono (by decide)) rfl (g_subtract T) k_subtract b_subtract tk (va_cons true (ve_var (i := 2) rfl) (va_cons true (ve_var (i := 8) rfl) (va_cons true (ve_var (i := 9) rfl) va_nil)))) (va_cons true (ve_var (i := 12) rfl) va_nil))))))))) (vss_one (vs_ret ve_bl)) vss_nil)
  (vss_cons (vs_if (vt_not (vt_tru (ve_call o__law_same (hr.mono (by decide)) rfl (g__law_same T) k__law_same b__law_same tk (va_cons true (ve_var (i := 2) rfl) (va_cons true (ve_call o_negate (hr.mono (by decide)) rfl (g_negate T) k_negate b_negate tk (va_cons true (ve_var (i := 2) rfl) (va_cons true (ve_var (i := 8) rfl) va_nil))) (va_cons true (ve_call o__law_number (hr.mono (by decide)) rfl (g__law_number T) k__law_number b__law_number tk (va_cons true (ve_var (i := 2) rfl) (va_cons true (ve_neg (ve_ix (ve_var (i := 5) rfl) ve_int)) (va_cons true (ve_ix (ve_var (i := 5) rfl) ve_int) va_nil)))) va_nil)))))) (vss_one (vs_ret ve_bl)) vss_nil)
  (vss_cons (vs_if (vt_not (vt_tru (ve_call o__law_same (hr.mono (by decide)) rfl (g__law_same T) k__law_same b__law_same tk (va_cons true (ve_var (i := 2) rfl) (va_cons true (ve_call o_multiply (hr.mono (by decide)) rfl (g_multiply T) k_multiply b_multiply tk (va_cons true (ve_var (i := 2) rfl) (va_cons true (ve_var (i := 8) rfl) (va_cons true (ve_var (i := 9) rfl) va_nil)))) (va_cons true (ve_call o__law_number (hr.mono (by decide)) rfl (g__law_number T) k__law_number b__law_number tk (va_cons true (ve_var (i := 2) rfl) (va_cons true (ve_mul (ve_ix (ve_var (i := 5) rfl) ve_int) (ve_ix (ve_var (i := 6) rfl) ve_int)) (va_cons true (ve_mul (ve_ix (ve_var (i := 5) rfl) ve_int) (ve_ix (ve_var (i := 6) rfl) ve_int)) va_nil)))) va_nil)))))) (vss_one (vs_ret ve_bl)) vss_nil)
  (vss_cons (vs_asg (ve_tup (va_cons false ve_int (va_cons false ve_int va_nil))) (vg_tup rfl (vgs_cons (vg_name (i := 10) sc_law.nd rfl (by first | exact Or.inl rfl | exact Or.inr rfl)) (vgs_cons (vg_name (i := 13) sc_law.nd rfl (by first | exact Or.inl rfl | exact Or.inr rfl)) vgs_nil))))
  (vss_cons (vs_for (passes_of rfl) rfl (vi_range1 rfl (n_range T) (va_cons true (ve_var (i := 7) rfl) va_nil)) (vg_name (i := 14) sc_law.nd rfl (by first | exact Or.inl rfl | exact Or.inr rfl)) (vss_one (vs_par (i := 10) (j := 13) rfl sc_law.nd rfl rfl (by decide) rfl rfl (va_it (ve_mul (ve_var (i := 10) rfl) (ve_ix (ve_var (i := 5) rfl) ve_int)) (va_it (ve_mul (ve_var (i := 13) rfl) (ve_ix (ve_var (i := 5) rfl) ve_int)) va_nil)) rfl)))
  (vss_cons (vs_if (vt_not (vt_tru (ve_call o__law_same (hr.mono (by decide)) rfl (g__law_same T) k__law_same b__law_same tk (va_cons true (ve_var (i := 2) rfl) (va_cons true (ve_call o_raise_to (hr.mono (by decide)) rfl (g_raise_to T) k_raise_to b_raise_to tk (va_cons true (ve_var (i := 2) rfl) (va_cons true (ve_var (i := 8) rfl) (va_cons true (ve_var (i := 7) rfl) va_nil)))) (va_cons true (ve_call o__law_number (hr.mono (by decide)) rfl (g__law_number T) k__law_number b__law_number tk (va_cons true (ve_var (i := 2) rfl) (va_cons true (ve_var (i := 10) rfl) (va_cons true (ve_var (i := 13) rfl) va_nil)))) va_nil)))))) (vss_one (vs_ret ve_bl)) vss_nil)
  (vss_cons (vs_set (i := 15) sc_law.nd rfl (by first | exact Or.inl rfl | exact Or.inr rfl) (ve_call o__law_number (hr.mono (by decide)) rfl (g__law_number T) k__law_number b__law_number tk (va_cons true (ve_var (i := 2) rfl) (va_cons true ve_int (va_cons true ve_int va_nil)))))
  (vss_cons (vs_if (vt_ne (ru64 hr) (ve_var (i := 9) rfl) (ve_var (i := 15) rfl)) (vss_cons (vs_if (vt_not (vt_tru (ve_call o__law_same (hr.mono (by decide)) rfl (g__law_same T) k__law_same b__law_same tk (va_cons true (ve_var (i := 2) rfl) (va_cons true (ve_call o_invert (hr.mono (by decide)) rfl (g_invert T) k_invert b_invert tk (va_cons true (ve_var (i := 2) rfl) (va_cons true (ve_var (i := 9) rfl) va_nil))) (va_cons true (ve_call o__law_number (hr.mono (by decide)) rfl (g__law_number T) k__law_number b__law_number tk (va_cons true (ve_var (i := 2) rfl) (va_cons true (ve_ix (ve_var (i := 6) rfl) ve_int) (va_cons true (ve_ix (ve_var (i := 6) rfl) ve_int) va_nil)))) va_nil)))))) (vss_one (vs_ret ve_bl)) vss_nil)
  (vss_cons (vs_if (vt_not (vt_tru (ve_call o__law_same (hr.mono (by decide)) rfl (g__law_same T) k__law_same b__law_same tk (va_cons true (ve_var (i := 2) rfl) (va_cons true (ve_call o_divide (hr.mono (by decide)) rfl (g_divide T) k_divide b_divide tk (va_cons true (ve_var (i := 2) rfl) (va_cons true (ve_var (i := 8) rfl) (va_cons true (ve_var (i := 9) rfl) va_nil)))) (va_cons true (ve_call o__law_number (hr.mono (by decide)) rfl (g__law_number T) k__law_number b__law_number tk (va_cons true (ve_var (i := 2) rfl) (va_cons true (ve_mul (ve_ix (ve_var (i := 5) rfl) ve_int) (ve_ix (ve_var (i := 6) rfl) ve_int)) (va_cons true (ve_mul (ve_ix (ve_var (i := 5) rfl) ve_int) (ve_ix (ve_var (i := 6) rfl) ve_int)) va_nil)))) va_nil)))))) (vss_one (vs_ret ve_bl)) vss_nil)
  (vss_one (vs_for (passes_of rfl) rfl (vi_seq (ve_tup (va_cons false (ve_ix (ve_var (i := 5) rfl) ve_int) (va_cons false (ve_var (i := 4) rfl) va_nil)))) (vg_name (i := 10) sc_law.nd rfl (by first | exact Or.inl rfl | exact Or.inr rfl)) (vss_one (vs_if (vt_not (vt_tru (ve_call o__law_same (hr.mono (by decide)) rfl (g__law_same T) k__law_same b__law_same tk (va_cons true (ve_var (i := 2) rfl) (va_cons true (ve_call o_ratio_of (hr.mono (by decide)) rfl (g_ratio_of T) k_ratio_of b_ratio_of tk (va_cons true (ve_var (i := 2) rfl) (va_cons true (ve_var (i := 10) rfl) (va_cons true (ve_ix (ve_var (i := 6) rfl) ve_int) va_nil)))) (va_cons true (ve_call o__law_number (hr.mono (by decide)) rfl (g__law_number T) k__law_number b__law_number tk (va_cons true (ve_var (i := 2) rfl) (va_cons true (ve_var (i := 10) rfl) (va_cons true (ve_ix (ve_var (i := 6) rfl) ve_int) va_nil)))) va_nil)))))) (vss_one (vs_ret ve_bl)) vss_nil)))))) vss_nil)
  (vss_cons (vs_setLc (i := 16) rfl sc_law.nd rfl rfl (sw_true rfl rfl rfl (by decide +kernel)) (vi_range1 rfl (n_range T) (va_cons true (ve_mod (ve_ix (ve_var (i := 1) rfl) ve_int) ve_int) va_nil)) (blkOk_by (N := N_law) (sc := (defScope (top 34))) (own := [("k", 14)]) (by decide +kernel)) (by decide) (vgc_name (i := 14) (fun _ _ _ _ _ => pg_name sc_law.nd rfl (by first | exact Or.inl rfl | exact Or.inr rfl))) (fun _ _ _ _ _ => vts_nil) (fun _ _ _ _ _ => (ve_call o__law_pair (hr.mono (by decide)) rfl (g__law_pair T) k__law_pair b__law_pair takes_none5 (va_cons true (ve_var (i := 1) rfl) (va_cons true (ve_add ve_int (ve_mul ve_int (ve_var (i := 14) rfl))) (va_cons true (ve_var (i := 2) rfl) (va_cons true (ve_var (i := 3) rfl) va_nil)))))))
  (vss_cons (vs_setLc (i := 17) rfl sc_law.nd rfl rfl (sw_true rfl rfl rfl (by decide +kernel)) (vi_range1 rfl (n_range T) (va_cons true (ve_len rfl (n_len T) (va_cons true (ve_var (i := 16) rfl) va_nil)) va_nil)) (blkOk_by (N := N_law) (sc := (defScope (top 34))) (own := [("k", 14)]) (by decide +kernel)) (by decide) (vgc_name (i := 14) (fun _ _ _ _ _ => pg_name sc_law.nd rfl (by first | exact Or.inl rfl | exact Or.inr rfl))) (fun _ _ _ _ _ => vts_nil) (fun _ _ _ _ _ => (ve_call o__law_pair (hr.mono (by decide)) rfl (g__law_pair T) k__law_pair b__law_pair takes_none5 (va_cons true (ve_var (i := 1) rfl) (va_cons true (ve_add ve_int (ve_mul ve_int (ve_var (i := 14) rfl))) (va_cons true (ve_var (i := 2) rfl) (va_cons true (ve_var (i := 3) rfl) va_nil)))))))
  (vss_one (vs_ret (ve_and (ve_call o__law_no_inverse (hr.mono (by decide)) rfl (g__law_no_inverse T) k__law_no_inverse b__law_no_inverse tk (va_cons true (ve_var (i := 2) rfl) (va_cons true (ve_var (i := 15) rfl) (va_cons true (ve_var (i := 8) rfl) va_nil)))) (ve_one (ve_call o__law_rows (hr.mono (by decide)) rfl (g__law_rows T) k__law_rows b__law_rows tk (va_cons true (ve_var (i := 2) rfl) (va_cons true (ve_var (i := 16) rfl) (va_cons true (ve_var (i := 17) rfl) (va_cons true (ve_var (i := 6) rfl) va_nil))))))))))))))))))))))))))))))
theorem ok_law (T : T0 K mg) : ∃ fd, FnOk P w K mg base (L2.CX P w) 6 (He.ga K "law") fd ["script"] (spV K [true] f_law) ∧ Binds K fd ["script"] [] ∧ PySem.W.keepIn K (.ref (He.ga K "law")) = true := by
  obtain ⟨fd, F⟩ := fd_law T
  exact ⟨fd, fn_okV (bs := [true]) (m := m_law) (N := N_law) (k := 5) F sc_law rfl (body_law T), FunD.bindsN F fun _ _ _ _ _ _ us hl => match us, hl with | [_], _ => rfl, F.kp⟩
end
end De

set_option maxRecDepth 100000
namespace Ma
open PySem Vi
/-! fractions -/
def en (q : Rat) : D := .tup [.int q.num, .int q.den]
theorem gcd_ne {n d : Int} (hd : d ≠ 0) : ((n.natAbs.gcd d.natAbs : Nat) : Int) ≠ 0 := by
  intro h
  have h' : n.natAbs.gcd d.natAbs = 0 := by exact_mod_cast h
  have := Nat.eq_zero_of_gcd_eq_zero_right h'
  omega
theorem fdiv_num {n d c : Int} (hd : d ≠ 0) (hc : c = if d < 0 then -((n.natAbs.gcd d.natAbs : Nat) : Int) else ((n.natAbs.gcd d.natAbs : Nat) : Int)) : n.fdiv c = (Rat.divInt n d).num := by
  have hg : ((n.natAbs.gcd d.natAbs : Nat) : Int) ∣ n := by
    rw [Int.ofNat_dvd_left]
    exact Nat.gcd_dvd_left _ _
  rw [Rat.num_divInt]
  have e : (d.gcd n) = n.natAbs.gcd d.natAbs := by
    rw [Int.gcd, Nat.gcd_comm]
  rw [e, hc]
  by_cases h : d < 0
  · rw [if_pos h, Int.sign_eq_neg_one_of_neg h, Int.fdiv_eq_ediv_of_dvd (Int.neg_dvd.mpr hg), Int.ediv_neg]
    rw [show (-1 * n) = -n by omega, Int.neg_ediv_of_dvd hg]
  · rw [if_neg h, Int.sign_eq_one_of_pos (by omega), Int.one_mul, Int.fdiv_eq_ediv_of_dvd hg]
theorem fdiv_den {n d c : Int} (hd : d ≠ 0) (hc : c = if d < 0 then -((n.natAbs.gcd d.natAbs : Nat) : Int) else ((n.natAbs.gcd d.natAbs : Nat) : Int)) : d.fdiv c = (Rat.divInt n d).den := by
  have hg : ((n.natAbs.gcd d.natAbs : Nat) : Int) ∣ d := by
    rw [Int.ofNat_dvd_left]
    exact Nat.gcd_dvd_right _ _
  rw [Rat.den_divInt, if_neg hd]
  have e : (d.gcd n) = n.natAbs.gcd d.natAbs := by
    rw [Int.gcd, Nat.gcd_comm]
  rw [e, hc, Int.natCast_ediv]
  by_cases h : d < 0
  · rw [if_pos h, Int.fdiv_eq_ediv_of_dvd (Int.neg_dvd.mpr hg), Int.ediv_neg, ← Int.neg_ediv_of_dvd hg, Int.ofNat_natAbs_of_nonpos (by omega)]
  · rw [if_neg h, Int.fdiv_eq_ediv_of_dvd hg, Int.natAbs_of_nonneg (by omega)]
theorem gcd_le {n d : Int} (hd : d ≠ 0) : n.natAbs.gcd d.natAbs ≤ d.natAbs := Nat.gcd_le_right _ (by omega)
theorem log_mono {a b : Nat} (h : a ≤ b) : a.log2 ≤ b.log2 := by
  by_cases ha : a = 0
  · subst ha
    have : Nat.log2 0 = 0 := by decide
    omega
  · rw [Nat.le_log2 (by omega)]
    exact Nat.le_trans (Nat.log2_self_le ha) h
end Ma

set_option maxRecDepth 100000
set_option linter.all false
set_option exponentiation.threshold 100000
namespace Ma
open PySem Vi Mi
theorem gD {n c : Int} (h0 : c ≠ 0) (h : c.natAbs.log2 < 9000) : gDiv (.int n) (.int c) = some (.int (n.fdiv c)) := by
  simp [gI, h0, h]
theorem lowest_ok {n d : Int} (hd : d ≠ 0) (hs : d.natAbs.log2 < 9000) : f_lowest [.int n, .int d] = .rt (en (Rat.divInt n d)) := by
  have hg : (n.natAbs.gcd d.natAbs).log2 < 9000 := Nat.lt_of_le_of_lt (log_mono (gcd_le hd)) hs
  have hg0 := gcd_ne (n := n) hd
  unfold f_lowest m_lowest
  by_cases h : d < 0
  · have e1 := fdiv_num (n := n) (c := -((n.natAbs.gcd d.natAbs : Nat) : Int)) hd (by rw [if_pos h])
    have e2 := fdiv_den (n := n) (c := -((n.natAbs.gcd d.natAbs : Nat) : Int)) hd (by rw [if_pos h])
    simp [Vi.mF, Vi.finF, Vi.startE, Vi.slotsE, Vi.sSeq, Vi.sNx, Vi.sSet, Vi.setMd, Vi.sRet, Vi.sIf, Vi.sExpr, Vi.sPar, Vi.sPar3, Vi.slotOf, Vi.slotP, Vi.sAug, Vi.sAsg, Vi.sApp, Vi.sFor, Vi.vVar, Vi.vC, Vi.vOp, Vi.vOpA, Vi.v1, Vi.v2, Vi.vUn, Vi.vCB, Vi.vCall, Vi.vaNil, Vi.vaCons, Vi.vaIt, Vi.vTup, Vi.vLst, Vi.shs, Vi.vIx, Vi.itemRE, Vi.atD, Vi.itemsOf, L2.atI, L2.ixN, Vi.gI, Vi.gI0, Vi.gAdd, Vi.gMul, Vi.gNeg, Vi.gLen, Vi.gInt, Vi.gAbs, Vi.gList, Vi.gGcd, Vi.gSum, Vi.gIsi, Vi.tyD, Vi.isa, Vi.argsA, Vi.argA, Vi.isSeq, Vi.flatI, Vi.flat, Vi.flatL, Vi.fitM, Vi.ksB, Vi.truth, Vi.vTru, Vi.tAndT, Vi.tOrT, Vi.tNotT, Vi.vAndV, Vi.vOrV, Vi.vNotV, Vi.vIf, Vi.lineN, Vi.γName, Vi.γTup, Vi.γCons, Vi.γNil, Vi.tgMd, Vi.tYesV, h, hd, hg, e1, e2, en]
  · have e1 := fdiv_num (n := n) (c := ((n.natAbs.gcd d.natAbs : Nat) : Int)) hd (by rw [if_neg h])
    have e2 := fdiv_den (n := n) (c := ((n.natAbs.gcd d.natAbs : Nat) : Int)) hd (by rw [if_neg h])
    simp [Vi.mF, Vi.finF, Vi.startE, Vi.slotsE, Vi.sSeq, Vi.sNx, Vi.sSet, Vi.setMd, Vi.sRet, Vi.sIf, Vi.sExpr, Vi.sPar, Vi.sPar3, Vi.slotOf, Vi.slotP, Vi.sAug, Vi.sAsg, Vi.sApp, Vi.sFor, Vi.vVar, Vi.vC, Vi.vOp, Vi.vOpA, Vi.v1, Vi.v2, Vi.vUn, Vi.vCB, Vi.vCall, Vi.vaNil, Vi.vaCons, Vi.vaIt, Vi.vTup, Vi.vLst, Vi.shs, Vi.vIx, Vi.itemRE, Vi.atD, Vi.itemsOf, L2.atI, L2.ixN, Vi.gI, Vi.gI0, Vi.gAdd, Vi.gMul, Vi.gNeg, Vi.gLen, Vi.gInt, Vi.gAbs, Vi.gList, Vi.gGcd, Vi.gSum, Vi.gIsi, Vi.tyD, Vi.isa, Vi.argsA, Vi.argA, Vi.isSeq, Vi.flatI, Vi.flat, Vi.flatL, Vi.fitM, Vi.ksB, Vi.truth, Vi.vTru, Vi.tAndT, Vi.tOrT, Vi.tNotT, Vi.vAndV, Vi.vOrV, Vi.vNotV, Vi.vIf, Vi.lineN, Vi.γName, Vi.γTup, Vi.γCons, Vi.γNil, Vi.tgMd, Vi.tYesV, h, hd, hg, e1, e2, en]
/-! the law's own gcd -/
theorem common_loop : ∀ (b a n : Nat), b < n → whL t1__law_common b2__law_common n [some (.sh, .int (a : Int)), some (.sh, .int (b : Int))] = .nx [some (.sh, .int (a.gcd b : Nat)), some (.sh, .int 0)] := by
  intro b
  induction b using Nat.strongRecOn with
  | ind b ih =>
    intro a n hn
    obtain ⟨m, rfl⟩ : ∃ m, n = m + 1 := ⟨n - 1, by omega⟩
    unfold whL
    by_cases hb : b = 0
    · subst hb
      simp [Vi.mF, Vi.finF, Vi.startE, Vi.slotsE, Vi.sSeq, Vi.sNx, Vi.sSet, Vi.setMd, Vi.sRet, Vi.sIf, Vi.sExpr, Vi.sPar, Vi.sPar3, Vi.slotOf, Vi.slotP, Vi.sAug, Vi.sAsg, Vi.sApp, Vi.sFor, Vi.vVar, Vi.vC, Vi.vOp, Vi.vOpA, Vi.v1, Vi.v2, Vi.vUn, Vi.vCB, Vi.vCall, Vi.vaNil, Vi.vaCons, Vi.vaIt, Vi.vTup, Vi.vLst, Vi.shs, Vi.vIx, Vi.itemRE, Vi.atD, Vi.itemsOf, L2.atI, L2.ixN, Vi.gI, Vi.gI0, Vi.gAdd, Vi.gMul, Vi.gNeg, Vi.gLen, Vi.gInt, Vi.gAbs, Vi.gList, Vi.gGcd, Vi.gSum, Vi.gIsi, Vi.tyD, Vi.isa, Vi.argsA, Vi.argA, Vi.isSeq, Vi.flatI, Vi.flat, Vi.flatL, Vi.fitM, Vi.ksB, Vi.truth, Vi.vTru, Vi.tAndT, Vi.tOrT, Vi.tNotT, Vi.vAndV, Vi.vOrV, Vi.vNotV, Vi.vIf, Vi.lineN, Vi.γName, Vi.γTup, Vi.γCons, Vi.γNil, Vi.tgMd, Vi.tYesV, t1__law_common]
    · have hb' : (0 : Int) < b := by omega
      have hlt : a % b < b := Nat.mod_lt _ (by omega)
      have key := ih (a % b) hlt b m (by omega)
      have eg : b.gcd (a % b) = a.gcd b := by rw [Nat.gcd_comm b, ← Nat.gcd_rec, Nat.gcd_comm]
      rw [eg] at key
      have e1 : t1__law_common [some (.sh, .int (a : Int)), some (.sh, .int (b : Int))] = .ok true [some (.sh, .int (a : Int)), some (.sh, .int (b : Int))] := by
        unfold t1__law_common
        simp [Vi.mF, Vi.finF, Vi.startE, Vi.slotsE, Vi.sSeq, Vi.sNx, Vi.sSet, Vi.setMd, Vi.sRet, Vi.sIf, Vi.sExpr, Vi.sPar, Vi.sPar3, Vi.slotOf, Vi.slotP, Vi.sAug, Vi.sAsg, Vi.sApp, Vi.sFor, Vi.vVar, Vi.vC, Vi.vOp, Vi.vOpA, Vi.v1, Vi.v2, Vi.vUn, Vi.vCB, Vi.vCall, Vi.vaNil, Vi.vaCons, Vi.vaIt, Vi.vTup, Vi.vLst, Vi.shs, Vi.vIx, Vi.itemRE, Vi.atD, Vi.itemsOf, L2.atI, L2.ixN, Vi.gI, Vi.gI0, Vi.gAdd, Vi.gMul, Vi.gNeg, Vi.gLen, Vi.gInt, Vi.gAbs, Vi.gList, Vi.gGcd, Vi.gSum, Vi.gIsi, Vi.tyD, Vi.isa, Vi.argsA, Vi.argA, Vi.isSeq, Vi.flatI, Vi.flat, Vi.flatL, Vi.fitM, Vi.ksB, Vi.truth, Vi.vTru, Vi.tAndT, Vi.tOrT, Vi.tNotT, Vi.vAndV, Vi.vOrV, Vi.vNotV, Vi.vIf, Vi.lineN, Vi.γName, Vi.γTup, Vi.γCons, Vi.γNil, Vi.tgMd, Vi.tYesV, hb]
      have e2 : b2__law_common [some (.sh, .int (a : Int)), some (.sh, .int (b : Int))] = .nx [some (.sh, .int (b : Int)), some (.sh, .int ((a % b : Nat) : Int))] := by
        unfold b2__law_common
        simp [Vi.mF, Vi.finF, Vi.startE, Vi.slotsE, Vi.sSeq, Vi.sNx, Vi.sSet, Vi.setMd, Vi.sRet, Vi.sIf, Vi.sExpr, Vi.sPar, Vi.sPar3, Vi.slotOf, Vi.slotP, Vi.sAug, Vi.sAsg, Vi.sApp, Vi.sFor, Vi.vVar, Vi.vC, Vi.vOp, Vi.vOpA, Vi.v1, Vi.v2, Vi.vUn, Vi.vCB, Vi.vCall, Vi.vaNil, Vi.vaCons, Vi.vaIt, Vi.vTup, Vi.vLst, Vi.shs, Vi.vIx, Vi.itemRE, Vi.atD, Vi.itemsOf, L2.atI, L2.ixN, Vi.gI, Vi.gI0, Vi.gAdd, Vi.gMul, Vi.gNeg, Vi.gLen, Vi.gInt, Vi.gAbs, Vi.gList, Vi.gGcd, Vi.gSum, Vi.gIsi, Vi.tyD, Vi.isa, Vi.argsA, Vi.argA, Vi.isSeq, Vi.flatI, Vi.flat, Vi.flatL, Vi.fitM, Vi.ksB, Vi.truth, Vi.vTru, Vi.tAndT, Vi.tOrT, Vi.tNotT, Vi.vAndV, Vi.vOrV, Vi.vNotV, Vi.vIf, Vi.lineN, Vi.γName, Vi.γTup, Vi.γCons, Vi.γNil, Vi.tgMd, Vi.tYesV, hb, Nat.pos_of_ne_zero hb]
      rw [e1]
      simp only [RT.toS_ok]
      rw [e2]
      exact key
theorem wfuel_big {n : Nat} (h : n < 2 ^ 19000) : n < wfuel := Nat.lt_trans h (Nat.pow_lt_pow_right (by decide) (by decide))
theorem common_ok {a b : Int} (hs : Bt 19000 b) : f__law_common [.int a, .int b] = .rt (.int ((a.natAbs.gcd b.natAbs : Nat) : Int)) := by
  have ea : (if a < 0 then -a else a) = (a.natAbs : Int) := by split <;> omega
  have eb : (if b < 0 then -b else b) = (b.natAbs : Int) := by split <;> omega
  have key := common_loop b.natAbs a.natAbs wfuel (wfuel_big hs)
  unfold f__law_common m__law_common
  simp [Vi.mF, Vi.finF, Vi.startE, Vi.slotsE, Vi.sSeq, Vi.sNx, Vi.sSet, Vi.setMd, Vi.sRet, Vi.sIf, Vi.sExpr, Vi.sPar, Vi.sPar3, Vi.slotOf, Vi.slotP, Vi.sAug, Vi.sAsg, Vi.sApp, Vi.sFor, Vi.vVar, Vi.vC, Vi.vOp, Vi.vOpA, Vi.v1, Vi.v2, Vi.vUn, Vi.vCB, Vi.vCall, Vi.vaNil, Vi.vaCons, Vi.vaIt, Vi.vTup, Vi.vLst, Vi.shs, Vi.vIx, Vi.itemRE, Vi.atD, Vi.itemsOf, L2.atI, L2.ixN, Vi.gI, Vi.gI0, Vi.gAdd, Vi.gMul, Vi.gNeg, Vi.gLen, Vi.gInt, Vi.gAbs, Vi.gList, Vi.gGcd, Vi.gSum, Vi.gIsi, Vi.tyD, Vi.isa, Vi.argsA, Vi.argA, Vi.isSeq, Vi.flatI, Vi.flat, Vi.flatL, Vi.fitM, Vi.ksB, Vi.truth, Vi.vTru, Vi.tAndT, Vi.tOrT, Vi.tNotT, Vi.vAndV, Vi.vOrV, Vi.vNotV, Vi.vIf, Vi.lineN, Vi.γName, Vi.γTup, Vi.γCons, Vi.γNil, Vi.tgMd, Vi.tYesV, ea, eb, key]
theorem llowest_ok {n d : Int} (hd : d ≠ 0) (hs : Bt 8000 d) : f__law_lowest [.int n, .int d] = .rt (en (Rat.divInt n d)) := by
  have hg : (n.natAbs.gcd d.natAbs).log2 < 9000 := Nat.lt_of_le_of_lt (log_mono (gcd_le hd)) (Nat.lt_of_lt_of_le hs.log (by decide))
  have hg0 := gcd_ne (n := n) hd
  have hc := common_ok (a := n) (hs.mono (l := 19000) (by decide))
  unfold f__law_lowest m__law_lowest
  by_cases h : d < 0
  · have e1 := fdiv_num (n := n) (c := -((n.natAbs.gcd d.natAbs : Nat) : Int)) hd (by rw [if_pos h])
    have e2 := fdiv_den (n := n) (c := -((n.natAbs.gcd d.natAbs : Nat) : Int)) hd (by rw [if_pos h])
    simp [Vi.mF, Vi.finF, Vi.startE, Vi.slotsE, Vi.sSeq, Vi.sNx, Vi.sSet, Vi.setMd, Vi.sRet, Vi.sIf, Vi.sExpr, Vi.sPar, Vi.sPar3, Vi.slotOf, Vi.slotP, Vi.sAug, Vi.sAsg, Vi.sApp, Vi.sFor, Vi.vVar, Vi.vC, Vi.vOp, Vi.vOpA, Vi.v1, Vi.v2, Vi.vUn, Vi.vCB, Vi.vCall, Vi.vaNil, Vi.vaCons, Vi.vaIt, Vi.vTup, Vi.vLst, Vi.shs, Vi.vIx, Vi.itemRE, Vi.atD, Vi.itemsOf, L2.atI, L2.ixN, Vi.gI, Vi.gI0, Vi.gAdd, Vi.gMul, Vi.gNeg, Vi.gLen, Vi.gInt, Vi.gAbs, Vi.gList, Vi.gGcd, Vi.gSum, Vi.gIsi, Vi.tyD, Vi.isa, Vi.argsA, Vi.argA, Vi.isSeq, Vi.flatI, Vi.flat, Vi.flatL, Vi.fitM, Vi.ksB, Vi.truth, Vi.vTru, Vi.tAndT, Vi.tOrT, Vi.tNotT, Vi.vAndV, Vi.vOrV, Vi.vNotV, Vi.vIf, Vi.lineN, Vi.γName, Vi.γTup, Vi.γCons, Vi.γNil, Vi.tgMd, Vi.tYesV, hc, h, hd, hg, e1, e2, en]
  · have e1 := fdiv_num (n := n) (c := ((n.natAbs.gcd d.natAbs : Nat) : Int)) hd (by rw [if_neg h])
    have e2 := fdiv_den (n := n) (c := ((n.natAbs.gcd d.natAbs : Nat) : Int)) hd (by rw [if_neg h])
    simp [Vi.mF, Vi.finF, Vi.startE, Vi.slotsE, Vi.sSeq, Vi.sNx, Vi.sSet, Vi.setMd, Vi.sRet, Vi.sIf, Vi.sExpr, Vi.sPar, Vi.sPar3, Vi.slotOf, Vi.slotP, Vi.sAug, Vi.sAsg, Vi.sApp, Vi.sFor, Vi.vVar, Vi.vC, Vi.vOp, Vi.vOpA, Vi.v1, Vi.v2, Vi.vUn, Vi.vCB, Vi.vCall, Vi.vaNil, Vi.vaCons, Vi.vaIt, Vi.vTup, Vi.vLst, Vi.shs, Vi.vIx, Vi.itemRE, Vi.atD, Vi.itemsOf, L2.atI, L2.ixN, Vi.gI, Vi.gI0, Vi.gAdd, Vi.gMul, Vi.gNeg, Vi.gLen, Vi.gInt, Vi.gAbs, Vi.gList, Vi.gGcd, Vi.gSum, Vi.gIsi, Vi.tyD, Vi.isa, Vi.argsA, Vi.argA, Vi.isSeq, Vi.flatI, Vi.flat, Vi.flatL, Vi.fitM, Vi.ksB, Vi.truth, Vi.vTru, Vi.tAndT, Vi.tOrT, Vi.tNotT, Vi.vAndV, Vi.vOrV, Vi.vNotV, Vi.vIf, Vi.lineN, Vi.γName, Vi.γTup, Vi.γCons, Vi.γNil, Vi.tgMd, Vi.tYesV, hc, h, hd, hg, e1, e2, en]
/-! the operations over the fractions -/
/-- a fraction of a size -/
def Qt (k : Nat) (q : Rat) : Prop := Bt k q.num ∧ Bt k (q.den : Int)
theorem den_ne (q : Rat) : (q.den : Int) ≠ 0 := by have := q.den_nz; omega
theorem low_add (q r : Rat) : Rat.divInt (q.num * r.den + r.num * q.den) (q.den * r.den) = q + r := by
  have h := Rat.divInt_add_divInt q.num r.num (den_ne q) (den_ne r)
  rw [Rat.num_divInt_den, Rat.num_divInt_den] at h
  exact h.symm
theorem low_mul (q r : Rat) : Rat.divInt (q.num * r.num) (q.den * r.den) = q * r := by
  have h := Rat.divInt_mul_divInt q.num r.num (d₁ := (q.den : Int)) (d₂ := (r.den : Int))
  rw [Rat.num_divInt_den, Rat.num_divInt_den] at h
  exact h.symm
theorem low_inv (q : Rat) : Rat.divInt q.den q.num = q⁻¹ := by
  have h := Rat.inv_divInt q.num q.den
  rw [Rat.num_divInt_den] at h
  exact h.symm
theorem number0 (n : Int) : f_number_of [.int 0, .int n] = .rt (en (n : Rat)) := by
  unfold f_number_of m_number_of
  simp [Vi.mF, Vi.finF, Vi.startE, Vi.slotsE, Vi.sSeq, Vi.sNx, Vi.sSet, Vi.setMd, Vi.sRet, Vi.sIf, Vi.sExpr, Vi.sPar, Vi.sPar3, Vi.slotOf, Vi.slotP, Vi.sAug, Vi.sAsg, Vi.sApp, Vi.sFor, Vi.vVar, Vi.vC, Vi.vOp, Vi.vOpA, Vi.v1, Vi.v2, Vi.vUn, Vi.vCB, Vi.vCall, Vi.vaNil, Vi.vaCons, Vi.vaIt, Vi.vTup, Vi.vLst, Vi.shs, Vi.vIx, Vi.itemRE, Vi.atD, Vi.itemsOf, L2.atI, L2.ixN, Vi.gI, Vi.gI0, Vi.gAdd, Vi.gMul, Vi.gNeg, Vi.gLen, Vi.gInt, Vi.gAbs, Vi.gList, Vi.gGcd, Vi.gSum, Vi.gIsi, Vi.tyD, Vi.isa, Vi.argsA, Vi.argA, Vi.isSeq, Vi.flatI, Vi.flat, Vi.flatL, Vi.fitM, Vi.ksB, Vi.truth, Vi.vTru, Vi.tAndT, Vi.tOrT, Vi.tNotT, Vi.vAndV, Vi.vOrV, Vi.vNotV, Vi.vIf, Vi.lineN, Vi.γName, Vi.γTup, Vi.γCons, Vi.γNil, Vi.tgMd, Vi.tYesV, en]
theorem add0 {q r : Rat} (hq : Qt 3000 q) (hr : Qt 3000 r) : f_add [.int 0, en q, en r] = .rt (en (q + r)) := by
  have m1 := hq.1.mulOk hr.2 (by decide)
  have m2 := hr.1.mulOk hq.2 (by decide)
  have m3 := hq.2.mulOk hr.2 (by decide)
  have hd : (q.den * r.den : Int) ≠ 0 := Int.mul_ne_zero (den_ne q) (den_ne r)
  have hl := lowest_ok (n := q.num * r.den + r.num * q.den) hd (Nat.lt_of_lt_of_le (hq.2.mul hr.2).log (by decide))
  rw [low_add] at hl
  simp only [Int.natAbs_natCast] at m1 m2 m3
  simp only [en] at hl ⊢
  unfold f_add m_add
  simp [Vi.mF, Vi.finF, Vi.startE, Vi.slotsE, Vi.sSeq, Vi.sNx, Vi.sSet, Vi.setMd, Vi.sRet, Vi.sIf, Vi.sExpr, Vi.sPar, Vi.sPar3, Vi.slotOf, Vi.slotP, Vi.sAug, Vi.sAsg, Vi.sApp, Vi.sFor, Vi.vVar, Vi.vC, Vi.vOp, Vi.vOpA, Vi.v1, Vi.v2, Vi.vUn, Vi.vCB, Vi.vCall, Vi.vaNil, Vi.vaCons, Vi.vaIt, Vi.vTup, Vi.vLst, Vi.shs, Vi.vIx, Vi.itemRE, Vi.atD, Vi.itemsOf, L2.atI, L2.ixN, Vi.gI, Vi.gI0, Vi.gAdd, Vi.gMul, Vi.gNeg, Vi.gLen, Vi.gInt, Vi.gAbs, Vi.gList, Vi.gGcd, Vi.gSum, Vi.gIsi, Vi.tyD, Vi.isa, Vi.argsA, Vi.argA, Vi.isSeq, Vi.flatI, Vi.flat, Vi.flatL, Vi.fitM, Vi.ksB, Vi.truth, Vi.vTru, Vi.tAndT, Vi.tOrT, Vi.tNotT, Vi.vAndV, Vi.vOrV, Vi.vNotV, Vi.vIf, Vi.lineN, Vi.γName, Vi.γTup, Vi.γCons, Vi.γNil, Vi.tgMd, Vi.tYesV, m1, m2, m3, hl]
theorem mul0 {q r : Rat} (hq : Qt 3000 q) (hr : Qt 3000 r) : f_multiply [.int 0, en q, en r] = .rt (en (q * r)) := by
  have m1 := hq.1.mulOk hr.1 (by decide)
  have m3 := hq.2.mulOk hr.2 (by decide)
  have hd : (q.den * r.den : Int) ≠ 0 := Int.mul_ne_zero (den_ne q) (den_ne r)
  have hl := lowest_ok (n := q.num * r.num) hd (Nat.lt_of_lt_of_le (hq.2.mul hr.2).log (by decide))
  rw [low_mul] at hl
  simp only [Int.natAbs_natCast] at m1 m3
  simp only [en] at hl ⊢
  unfold f_multiply m_multiply
  simp [Vi.mF, Vi.finF, Vi.startE, Vi.slotsE, Vi.sSeq, Vi.sNx, Vi.sSet, Vi.setMd, Vi.sRet, Vi.sIf, Vi.sExpr, Vi.sPar, Vi.sPar3, Vi.slotOf, Vi.slotP, Vi.sAug, Vi.sAsg, Vi.sApp, Vi.sFor, Vi.vVar, Vi.vC, Vi.vOp, Vi.vOpA, Vi.v1, Vi.v2, Vi.vUn, Vi.vCB, Vi.vCall, Vi.vaNil, Vi.vaCons, Vi.vaIt, Vi.vTup, Vi.vLst, Vi.shs, Vi.vIx, Vi.itemRE, Vi.atD, Vi.itemsOf, L2.atI, L2.ixN, Vi.gI, Vi.gI0, Vi.gAdd, Vi.gMul, Vi.gNeg, Vi.gLen, Vi.gInt, Vi.gAbs, Vi.gList, Vi.gGcd, Vi.gSum, Vi.gIsi, Vi.tyD, Vi.isa, Vi.argsA, Vi.argA, Vi.isSeq, Vi.flatI, Vi.flat, Vi.flatL, Vi.fitM, Vi.ksB, Vi.truth, Vi.vTru, Vi.tAndT, Vi.tOrT, Vi.tNotT, Vi.vAndV, Vi.vOrV, Vi.vNotV, Vi.vIf, Vi.lineN, Vi.γName, Vi.γTup, Vi.γCons, Vi.γNil, Vi.tgMd, Vi.tYesV, m1, m3, hl]
theorem neg0 {q : Rat} : f_negate [.int 0, en q] = .rt (en (-q)) := by
  unfold f_negate m_negate
  simp [Vi.mF, Vi.finF, Vi.startE, Vi.slotsE, Vi.sSeq, Vi.sNx, Vi.sSet, Vi.setMd, Vi.sRet, Vi.sIf, Vi.sExpr, Vi.sPar, Vi.sPar3, Vi.slotOf, Vi.slotP, Vi.sAug, Vi.sAsg, Vi.sApp, Vi.sFor, Vi.vVar, Vi.vC, Vi.vOp, Vi.vOpA, Vi.v1, Vi.v2, Vi.vUn, Vi.vCB, Vi.vCall, Vi.vaNil, Vi.vaCons, Vi.vaIt, Vi.vTup, Vi.vLst, Vi.shs, Vi.vIx, Vi.itemRE, Vi.atD, Vi.itemsOf, L2.atI, L2.ixN, Vi.gI, Vi.gI0, Vi.gAdd, Vi.gMul, Vi.gNeg, Vi.gLen, Vi.gInt, Vi.gAbs, Vi.gList, Vi.gGcd, Vi.gSum, Vi.gIsi, Vi.tyD, Vi.isa, Vi.argsA, Vi.argA, Vi.isSeq, Vi.flatI, Vi.flat, Vi.flatL, Vi.fitM, Vi.ksB, Vi.truth, Vi.vTru, Vi.tAndT, Vi.tOrT, Vi.tNotT, Vi.vAndV, Vi.vOrV, Vi.vNotV, Vi.vIf, Vi.lineN, Vi.γName, Vi.γTup, Vi.γCons, Vi.γNil, Vi.tgMd, Vi.tYesV, en]
theorem inv0 {q : Rat} (hq : Qt 3000 q) (h0 : q ≠ 0) : f_invert [.int 0, en q] = .rt (en q⁻¹) := by
  have hn : q.num ≠ 0 := fun z => h0 (Rat.num_eq_zero.mp z)
  have hl := lowest_ok (n := q.den) hn (Nat.lt_of_lt_of_le hq.1.log (by decide))
  rw [low_inv] at hl
  have h1 := number0 0
  simp only [en, Rat.num_intCast, Rat.den_intCast] at hl h1 ⊢
  unfold f_invert m_invert
  simp [Vi.mF, Vi.finF, Vi.startE, Vi.slotsE, Vi.sSeq, Vi.sNx, Vi.sSet, Vi.setMd, Vi.sRet, Vi.sIf, Vi.sExpr, Vi.sPar, Vi.sPar3, Vi.slotOf, Vi.slotP, Vi.sAug, Vi.sAsg, Vi.sApp, Vi.sFor, Vi.vVar, Vi.vC, Vi.vOp, Vi.vOpA, Vi.v1, Vi.v2, Vi.vUn, Vi.vCB, Vi.vCall, Vi.vaNil, Vi.vaCons, Vi.vaIt, Vi.vTup, Vi.vLst, Vi.shs, Vi.vIx, Vi.itemRE, Vi.atD, Vi.itemsOf, L2.atI, L2.ixN, Vi.gI, Vi.gI0, Vi.gAdd, Vi.gMul, Vi.gNeg, Vi.gLen, Vi.gInt, Vi.gAbs, Vi.gList, Vi.gGcd, Vi.gSum, Vi.gIsi, Vi.tyD, Vi.isa, Vi.argsA, Vi.argA, Vi.isSeq, Vi.flatI, Vi.flat, Vi.flatL, Vi.fitM, Vi.ksB, Vi.truth, Vi.vTru, Vi.tAndT, Vi.tOrT, Vi.tNotT, Vi.vAndV, Vi.vOrV, Vi.vNotV, Vi.vIf, Vi.lineN, Vi.γName, Vi.γTup, Vi.γCons, Vi.γNil, Vi.tgMd, Vi.tYesV, h1, hn, hl]
theorem inv0z : f_invert [.int 0, en 0] = .ex ⟨"NoInverse", none⟩ := by
  have h1 := number0 0
  simp only [en, Rat.num_intCast, Rat.den_intCast] at h1 ⊢
  unfold f_invert m_invert
  simp [Vi.mF, Vi.finF, Vi.startE, Vi.slotsE, Vi.sSeq, Vi.sNx, Vi.sSet, Vi.setMd, Vi.sRet, Vi.sIf, Vi.sExpr, Vi.sPar, Vi.sPar3, Vi.slotOf, Vi.slotP, Vi.sAug, Vi.sAsg, Vi.sApp, Vi.sFor, Vi.vVar, Vi.vC, Vi.vOp, Vi.vOpA, Vi.v1, Vi.v2, Vi.vUn, Vi.vCB, Vi.vCall, Vi.vaNil, Vi.vaCons, Vi.vaIt, Vi.vTup, Vi.vLst, Vi.shs, Vi.vIx, Vi.itemRE, Vi.atD, Vi.itemsOf, L2.atI, L2.ixN, Vi.gI, Vi.gI0, Vi.gAdd, Vi.gMul, Vi.gNeg, Vi.gLen, Vi.gInt, Vi.gAbs, Vi.gList, Vi.gGcd, Vi.gSum, Vi.gIsi, Vi.tyD, Vi.isa, Vi.argsA, Vi.argA, Vi.isSeq, Vi.flatI, Vi.flat, Vi.flatL, Vi.fitM, Vi.ksB, Vi.truth, Vi.vTru, Vi.tAndT, Vi.tOrT, Vi.tNotT, Vi.vAndV, Vi.vOrV, Vi.vNotV, Vi.vIf, Vi.lineN, Vi.γName, Vi.γTup, Vi.γCons, Vi.γNil, Vi.tgMd, Vi.tYesV, h1]
theorem sub0 {q r : Rat} (hq : Qt 3000 q) (hr : Qt 3000 r) : f_subtract [.int 0, en q, en r] = .rt (en (q - r)) := by
  have h1 := neg0 (q := r)
  have h2 := add0 hq (r := -r) ⟨by rw [Rat.neg_num]; exact hr.1.neg, by rw [Rat.neg_den]; exact hr.2⟩
  rw [← Rat.sub_eq_add_neg] at h2
  simp only [en] at h1 h2 ⊢
  unfold f_subtract m_subtract
  simp [Vi.mF, Vi.finF, Vi.startE, Vi.slotsE, Vi.sSeq, Vi.sNx, Vi.sSet, Vi.setMd, Vi.sRet, Vi.sIf, Vi.sExpr, Vi.sPar, Vi.sPar3, Vi.slotOf, Vi.slotP, Vi.sAug, Vi.sAsg, Vi.sApp, Vi.sFor, Vi.vVar, Vi.vC, Vi.vOp, Vi.vOpA, Vi.v1, Vi.v2, Vi.vUn, Vi.vCB, Vi.vCall, Vi.vaNil, Vi.vaCons, Vi.vaIt, Vi.vTup, Vi.vLst, Vi.shs, Vi.vIx, Vi.itemRE, Vi.atD, Vi.itemsOf, L2.atI, L2.ixN, Vi.gI, Vi.gI0, Vi.gAdd, Vi.gMul, Vi.gNeg, Vi.gLen, Vi.gInt, Vi.gAbs, Vi.gList, Vi.gGcd, Vi.gSum, Vi.gIsi, Vi.tyD, Vi.isa, Vi.argsA, Vi.argA, Vi.isSeq, Vi.flatI, Vi.flat, Vi.flatL, Vi.fitM, Vi.ksB, Vi.truth, Vi.vTru, Vi.tAndT, Vi.tOrT, Vi.tNotT, Vi.vAndV, Vi.vOrV, Vi.vNotV, Vi.vIf, Vi.lineN, Vi.γName, Vi.γTup, Vi.γCons, Vi.γNil, Vi.tgMd, Vi.tYesV, h1]
  simp only [Rat.neg_num, Rat.neg_den] at h2
  simp [Vi.mF, Vi.finF, Vi.startE, Vi.slotsE, Vi.sSeq, Vi.sNx, Vi.sSet, Vi.setMd, Vi.sRet, Vi.sIf, Vi.sExpr, Vi.sPar, Vi.sPar3, Vi.slotOf, Vi.slotP, Vi.sAug, Vi.sAsg, Vi.sApp, Vi.sFor, Vi.vVar, Vi.vC, Vi.vOp, Vi.vOpA, Vi.v1, Vi.v2, Vi.vUn, Vi.vCB, Vi.vCall, Vi.vaNil, Vi.vaCons, Vi.vaIt, Vi.vTup, Vi.vLst, Vi.shs, Vi.vIx, Vi.itemRE, Vi.atD, Vi.itemsOf, L2.atI, L2.ixN, Vi.gI, Vi.gI0, Vi.gAdd, Vi.gMul, Vi.gNeg, Vi.gLen, Vi.gInt, Vi.gAbs, Vi.gList, Vi.gGcd, Vi.gSum, Vi.gIsi, Vi.tyD, Vi.isa, Vi.argsA, Vi.argA, Vi.isSeq, Vi.flatI, Vi.flat, Vi.flatL, Vi.fitM, Vi.ksB, Vi.truth, Vi.vTru, Vi.tAndT, Vi.tOrT, Vi.tNotT, Vi.vAndV, Vi.vOrV, Vi.vNotV, Vi.vIf, Vi.lineN, Vi.γName, Vi.γTup, Vi.γCons, Vi.γNil, Vi.tgMd, Vi.tYesV, h2]
theorem inv_size {k : Nat} {q : Rat} (hq : Qt k q) (h0 : q ≠ 0) : Qt k q⁻¹ := by
  have hn : q.num ≠ 0 := fun z => h0 (Rat.num_eq_zero.mp z)
  constructor
  · rw [Rat.num_inv]
    have := hq.2
    unfold Bt at *
    rw [Int.natAbs_mul, Int.natAbs_sign_of_ne_zero hn]
    simpa using this
  · rw [Rat.den_inv, if_neg hn]
    have := hq.1
    unfold Bt at *
    simpa using this
theorem div0 {q r : Rat} (hq : Qt 3000 q) (hr : Qt 3000 r) (h0 : r ≠ 0) : f_divide [.int 0, en q, en r] = .rt (en (q / r)) := by
  have h1 := inv0 hr h0
  have h2 := mul0 hq (inv_size hr h0)
  rw [← Rat.div_def] at h2
  generalize r⁻¹ = s at h1 h2
  generalize q / r = t at h2 ⊢
  simp only [en] at h1 h2 ⊢
  unfold f_divide m_divide
  simp [Vi.mF, Vi.finF, Vi.startE, Vi.slotsE, Vi.sSeq, Vi.sNx, Vi.sSet, Vi.setMd, Vi.sRet, Vi.sIf, Vi.sExpr, Vi.sPar, Vi.sPar3, Vi.slotOf, Vi.slotP, Vi.sAug, Vi.sAsg, Vi.sApp, Vi.sFor, Vi.vVar, Vi.vC, Vi.vOp, Vi.vOpA, Vi.v1, Vi.v2, Vi.vUn, Vi.vCB, Vi.vCall, Vi.vaNil, Vi.vaCons, Vi.vaIt, Vi.vTup, Vi.vLst, Vi.shs, Vi.vIx, Vi.itemRE, Vi.atD, Vi.itemsOf, L2.atI, L2.ixN, Vi.gI, Vi.gI0, Vi.gAdd, Vi.gMul, Vi.gNeg, Vi.gLen, Vi.gInt, Vi.gAbs, Vi.gList, Vi.gGcd, Vi.gSum, Vi.gIsi, Vi.tyD, Vi.isa, Vi.argsA, Vi.argA, Vi.isSeq, Vi.flatI, Vi.flat, Vi.flatL, Vi.fitM, Vi.ksB, Vi.truth, Vi.vTru, Vi.tAndT, Vi.tOrT, Vi.tNotT, Vi.vAndV, Vi.vOrV, Vi.vNotV, Vi.vIf, Vi.lineN, Vi.γName, Vi.γTup, Vi.γCons, Vi.γNil, Vi.tgMd, Vi.tYesV, h1, h2]
theorem div0z {q : Rat} : f_divide [.int 0, en q, en 0] = .ex ⟨"NoInverse", none⟩ := by
  have h1 : f_invert [.int 0, .tup [.int 0, .int 1]] = .ex ⟨"NoInverse", none⟩ := inv0z
  show f_divide [.int 0, en q, .tup [.int 0, .int 1]] = _
  simp only [en]
  unfold f_divide m_divide
  simp [Vi.mF, Vi.finF, Vi.startE, Vi.slotsE, Vi.sSeq, Vi.sNx, Vi.sSet, Vi.setMd, Vi.sRet, Vi.sIf, Vi.sExpr, Vi.sPar, Vi.sPar3, Vi.slotOf, Vi.slotP, Vi.sAug, Vi.sAsg, Vi.sApp, Vi.sFor, Vi.vVar, Vi.vC, Vi.vOp, Vi.vOpA, Vi.v1, Vi.v2, Vi.vUn, Vi.vCB, Vi.vCall, Vi.vaNil, Vi.vaCons, Vi.vaIt, Vi.vTup, Vi.vLst, Vi.shs, Vi.vIx, Vi.itemRE, Vi.atD, Vi.itemsOf, L2.atI, L2.ixN, Vi.gI, Vi.gI0, Vi.gAdd, Vi.gMul, Vi.gNeg, Vi.gLen, Vi.gInt, Vi.gAbs, Vi.gList, Vi.gGcd, Vi.gSum, Vi.gIsi, Vi.tyD, Vi.isa, Vi.argsA, Vi.argA, Vi.isSeq, Vi.flatI, Vi.flat, Vi.flatL, Vi.fitM, Vi.ksB, Vi.truth, Vi.vTru, Vi.tAndT, Vi.tOrT, Vi.tNotT, Vi.vAndV, Vi.vOrV, Vi.vNotV, Vi.vIf, Vi.lineN, Vi.γName, Vi.γTup, Vi.γCons, Vi.γNil, Vi.tgMd, Vi.tYesV, h1]
/-! products, powers: sizes -/
theorem num_dvd_le {k : Nat} {n d : Int} (hd : d ≠ 0) (hn : Bt k n) (hd' : Bt k d) : Qt k (Rat.divInt n d) := by
  have e1 := fdiv_num (n := n) (c := _) hd rfl
  have e2 := fdiv_den (n := n) (c := _) hd rfl
  have hg0 := gcd_ne (n := n) hd
  have hle : ∀ (x : Int), Bt k x → ∀ c : Int, c ≠ 0 → c ∣ x → Bt k (x.fdiv c) := fun x hx c hc hdv => by
    rw [Int.fdiv_eq_ediv_of_dvd hdv]
    obtain ⟨y, rfl⟩ := hdv
    rw [Int.mul_ediv_cancel_left _ hc]
    unfold Bt at *
    rw [Int.natAbs_mul] at hx
    have : 1 ≤ c.natAbs := by omega
    exact Nat.lt_of_le_of_lt (Nat.le_mul_of_pos_left _ this) hx
  have hn1 : ((n.natAbs.gcd d.natAbs : Nat) : Int) ∣ n := by rw [Int.ofNat_dvd_left]; exact Nat.gcd_dvd_left _ _
  have hd1 : ((n.natAbs.gcd d.natAbs : Nat) : Int) ∣ d := by rw [Int.ofNat_dvd_left]; exact Nat.gcd_dvd_right _ _
  constructor
  · rw [← e1]
    refine hle n hn _ (by split <;> omega) ?_
    split
    · exact Int.neg_dvd.mpr hn1
    · exact hn1
  · rw [← e2]
    refine hle d hd' _ (by split <;> omega) ?_
    split
    · exact Int.neg_dvd.mpr hd1
    · exact hd1
theorem mul_size {k l : Nat} {q r : Rat} (hq : Qt k q) (hr : Qt l r) : Qt (k + l) (q * r) := by
  rw [← low_mul]
  exact num_dvd_le (Int.mul_ne_zero (den_ne q) (den_ne r)) (hq.1.mul hr.1) (hq.2.mul hr.2)
theorem add_size {k l : Nat} {q r : Rat} (hq : Qt k q) (hr : Qt l r) : Qt (k + l + 1) (q + r) := by
  rw [← low_add]
  exact num_dvd_le (Int.mul_ne_zero (den_ne q) (den_ne r)) (((hq.1.mul hr.2).add (((hr.1.mul hq.2).mono (by omega))))) ((hq.2.mul hr.2).mono (by omega))
end Ma

set_option maxRecDepth 100000
set_option linter.all false
namespace Ma
open PySem Vi Mi
/-! residues -/
def P5 : List Nat := [2, 3, 5, 7, 11]
theorem fermat : ∀ p ∈ P5, ∀ d < p, d ≠ 0 → (d ^ (p - 2) * d) % p = 1 := by decide +kernel
theorem cancel : ∀ p ∈ P5, ∀ d < p, d ≠ 0 → ∀ k < p, ∀ l < p, (k * d) % p = (l * d) % p → k = l := by decide +kernel
/-- k is n / d by p -/
def Rs (p : Nat) (n d k : Int) : Prop := 0 ≤ k ∧ k < p ∧ ∃ t, k * d - n = p * t
theorem pos5 {p : Nat} (hp : p ∈ P5) : 2 ≤ p ∧ p ≤ 11 := by
  simp [P5] at hp
  omega
theorem Rs.uniq {p : Nat} (hp : p ∈ P5) {n d k l : Int} (hd : d % p ≠ 0) (h : Rs p n d k) (h' : Rs p n d l) : k = l := by
  obtain ⟨h1, h2, t, h3⟩ := h
  obtain ⟨g1, g2, u, g3⟩ := h'
  have hp0 : (0 : Int) < p := by have := pos5 hp; omega
  have e1 : (k * d) % p = (l * d) % p := by
    have : k * d = l * d + p * (t - u) := by rw [Int.mul_sub]; omega
    rw [this, Int.add_mul_emod_self_left]
  have ed1 := Int.emod_nonneg d (b := (p : Int)) (by omega)
  have ed2 := Int.emod_lt_of_pos d hp0
  have em : ∀ z : Int, (z * (d % p)) % p = (z * d) % p := fun z => by rw [Int.mul_emod z (d % p), Int.emod_emod, ← Int.mul_emod]
  have e2 : (k * (d % p)) % p = (l * (d % p)) % p := by rw [em, em, e1]
  have key := cancel p hp (d % p).toNat (by omega) (by omega) k.toNat (by omega) l.toNat (by omega) (by
    have a1 : ((k.toNat * (d % p).toNat % p : Nat) : Int) = (k * (d % p)) % p := by
      rw [Int.natCast_emod, Int.natCast_mul, Int.toNat_of_nonneg h1, Int.toNat_of_nonneg ed1]
    have a2 : ((l.toNat * (d % p).toNat % p : Nat) : Int) = (l * (d % p)) % p := by
      rw [Int.natCast_emod, Int.natCast_mul, Int.toNat_of_nonneg g1, Int.toNat_of_nonneg ed1]
    have : ((k.toNat * (d % p).toNat % p : Nat) : Int) = ((l.toNat * (d % p).toNat % p : Nat) : Int) := by rw [a1, a2, e2]
    exact_mod_cast this)
  omega
/-- n / d by p -/
def rs (p : Nat) (n d : Int) : Int := (n * (((d % p).toNat ^ (p - 2) : Nat) : Int)) % p
theorem emod_wit (a : Int) (p : Nat) : a % p = a - p * (a / p) := by have := Int.emod_add_mul_ediv a p; omega
theorem rs_ok {p : Nat} (hp : p ∈ P5) {n d : Int} (hd : d % p ≠ 0) : Rs p n d (rs p n d) := by
  have hp0 : (0 : Int) < p := by have := pos5 hp; omega
  have ed1 := Int.emod_nonneg d (b := (p : Int)) (by omega)
  have ed2 := Int.emod_lt_of_pos d hp0
  refine ⟨Int.emod_nonneg _ (by omega), Int.emod_lt_of_pos _ hp0, ?_⟩
  have f := fermat p hp (d % p).toNat (by omega) (by omega)
  generalize hc : ((d % p).toNat ^ (p - 2) : Nat) = c at f
  have f2 : ((c : Int) * (d % p)) % p = 1 := by
    have : ((c * (d % p).toNat % p : Nat) : Int) = ((c : Int) * (d % p)) % p := by
      rw [Int.natCast_emod, Int.natCast_mul, Int.toNat_of_nonneg ed1]
    rw [← this, f]
    rfl
  rw [emod_wit] at f2
  have ed := emod_wit d p
  unfold rs
  rw [hc, emod_wit (n * (c : Int))]
  generalize n * (c : Int) / p = q1 at *
  generalize (c : Int) * (d % p) / p = q2 at *
  generalize d / p = q3 at *
  generalize d % p = m at *
  refine ⟨n * q2 + n * c * q3 - q1 * d, ?_⟩
  have e3 : (c : Int) * m = 1 + p * q2 := by omega
  have e4 : d = m + p * q3 := by omega
  subst e4
  grind
theorem rs_eq {p : Nat} (hp : p ∈ P5) {n d k : Int} (hd : d % p ≠ 0) (h : Rs p n d k) : rs p n d = k := Rs.uniq hp hd (rs_ok hp hd) h
end Ma

set_option maxRecDepth 100000
set_option linter.all false
namespace Ma
open PySem Vi Mi
section
variable {p : Nat} (hp : p ∈ P5)
include hp
theorem p_pos : (0 : Int) < p := by have := pos5 hp; omega
theorem p_pn : 0 < p := by have := pos5 hp; omega
theorem p_nz : ¬ p = 0 := by have := pos5 hp; omega
theorem Bt_small {k : Int} (h1 : 0 ≤ k) (h2 : k < p) : Bt 4 k := by
  have := pos5 hp
  exact Bt.of 11 (by omega) (by omega) (by decide)
theorem num_loop {n d : Int} (hd : d % p ≠ 0) (hs : Bt 8000 d) (r : Nat) (hr : Rs p n d r) : ∀ (L : List Nat) (x : Slot), (∀ i ∈ L, i < p) → r ∈ L →
    forL (γName 3) b1__law_number .sh (L.map fun (i : Nat) => D.int (0 + i)) [some (.tnt, .int p), some (.tnt, .int n), some (.tnt, .int d), x] = .rt .sh (.int r) [some (.tnt, .int p), some (.tnt, .int n), some (.tnt, .int d), some (.sh, .int r)]
  | [], x, _, h => by cases h
  | i :: L, x, hL, h => by
    have hi : i < p := hL i (List.mem_cons_self ..)
    have hp0 := p_pos hp
    have hm := (Bt_small hp (k := (i : Int)) (by omega) (by omega)).mulOk hs (by decide)
    simp only [Int.natAbs_natCast] at hm
    rw [List.map_cons]
    unfold forL
    by_cases hc : ((i : Int) * d - n) % p = 0
    · have e : (i : Int) = r := Rs.uniq hp hd ⟨by omega, by omega, ((i : Int) * d - n) / p, by have := Int.emod_add_mul_ediv ((i : Int) * d - n) p; omega⟩ hr
      have e' : i = r := by omega
      subst e'
      have eb : b1__law_number [some (.tnt, .int p), some (.tnt, .int n), some (.tnt, .int d), some (.sh, .int (0 + (i : Int)))] = .rt .sh (.int i) [some (.tnt, .int p), some (.tnt, .int n), some (.tnt, .int d), some (.sh, .int i)] := by
        unfold b1__law_number
        rw [Int.zero_add]
        simp [Vi.mF, Vi.finF, Vi.startE, Vi.slotsE, Vi.sSeq, Vi.sNx, Vi.sSet, Vi.setMd, Vi.sRet, Vi.sIf, Vi.sExpr, Vi.sPar, Vi.sPar3, Vi.slotOf, Vi.slotP, Vi.sAug, Vi.sAsg, Vi.sApp, Vi.sFor, Vi.vVar, Vi.vC, Vi.vOp, Vi.vOpA, Vi.v1, Vi.v2, Vi.vUn, Vi.vCB, Vi.vCall, Vi.vaNil, Vi.vaCons, Vi.vaIt, Vi.vTup, Vi.vLst, Vi.shs, Vi.vIx, Vi.itemRE, Vi.atD, Vi.itemsOf, L2.atI, L2.ixN, Vi.gI, Vi.gI0, Vi.gAdd, Vi.gMul, Vi.gNeg, Vi.gLen, Vi.gInt, Vi.gAbs, Vi.gList, Vi.gGcd, Vi.gSum, Vi.gIsi, Vi.tyD, Vi.isa, Vi.argsA, Vi.argA, Vi.isSeq, Vi.flatI, Vi.flat, Vi.flatL, Vi.fitM, Vi.ksB, Vi.truth, Vi.vTru, Vi.tAndT, Vi.tOrT, Vi.tNotT, Vi.vAndV, Vi.vOrV, Vi.vNotV, Vi.vIf, Vi.lineN, Vi.γName, Vi.γTup, Vi.γCons, Vi.γNil, Vi.tgMd, Vi.tYesV, hm, hc, p_nz hp, p_pn hp]
      show (match b1__law_number [some (.tnt, .int p), some (.tnt, .int n), some (.tnt, .int d), some (.sh, .int (0 + (i : Int)))] with | .nx e2 => _ | .ct e2 => _ | .bk e2 => SRes.nx e2 | r => r) = _
      rw [eb]
    · have hne : ¬ i = r := fun z => hc (by
        subst z
        obtain ⟨_, _, t, h3⟩ := hr
        rw [h3]
        exact Int.mul_emod_right _ _)
      have eb : b1__law_number [some (.tnt, .int p), some (.tnt, .int n), some (.tnt, .int d), some (.sh, .int (0 + (i : Int)))] = .nx [some (.tnt, .int p), some (.tnt, .int n), some (.tnt, .int d), some (.sh, .int i)] := by
        unfold b1__law_number
        rw [Int.zero_add]
        simp [Vi.mF, Vi.finF, Vi.startE, Vi.slotsE, Vi.sSeq, Vi.sNx, Vi.sSet, Vi.setMd, Vi.sRet, Vi.sIf, Vi.sExpr, Vi.sPar, Vi.sPar3, Vi.slotOf, Vi.slotP, Vi.sAug, Vi.sAsg, Vi.sApp, Vi.sFor, Vi.vVar, Vi.vC, Vi.vOp, Vi.vOpA, Vi.v1, Vi.v2, Vi.vUn, Vi.vCB, Vi.vCall, Vi.vaNil, Vi.vaCons, Vi.vaIt, Vi.vTup, Vi.vLst, Vi.shs, Vi.vIx, Vi.itemRE, Vi.atD, Vi.itemsOf, L2.atI, L2.ixN, Vi.gI, Vi.gI0, Vi.gAdd, Vi.gMul, Vi.gNeg, Vi.gLen, Vi.gInt, Vi.gAbs, Vi.gList, Vi.gGcd, Vi.gSum, Vi.gIsi, Vi.tyD, Vi.isa, Vi.argsA, Vi.argA, Vi.isSeq, Vi.flatI, Vi.flat, Vi.flatL, Vi.fitM, Vi.ksB, Vi.truth, Vi.vTru, Vi.tAndT, Vi.tOrT, Vi.tNotT, Vi.vAndV, Vi.vOrV, Vi.vNotV, Vi.vIf, Vi.lineN, Vi.γName, Vi.γTup, Vi.γCons, Vi.γNil, Vi.tgMd, Vi.tYesV, hm, hc, p_nz hp, p_pn hp]
      show (match b1__law_number [some (.tnt, .int p), some (.tnt, .int n), some (.tnt, .int d), some (.sh, .int (0 + (i : Int)))] with | .nx e2 => _ | .ct e2 => _ | .bk e2 => SRes.nx e2 | r => r) = _
      rw [eb]
      exact num_loop hd hs r hr L _ (fun j hj => hL j (List.mem_cons_of_mem _ hj)) ((List.mem_cons.mp h).resolve_left fun z => hne z.symm)
theorem small_p : smallI (p : Int) = true := small_of (by omega) (by have := pos5 hp; omega)
theorem lnum_p {n d : Int} (hd : d % p ≠ 0) (hs : Bt 8000 d) : f__law_number [.int p, .int n, .int d] = .rt (.int (rs p n d)) := by
  have hr := rs_ok hp (n := n) hd
  obtain ⟨r, er⟩ : ∃ r : Nat, rs p n d = r := ⟨(rs p n d).toNat, by have := hr.1; omega⟩
  rw [er] at hr ⊢
  have hlt : r < p := by have := hr.2.1; omega
  have key := num_loop hp hd hs r hr (List.range p) none (fun i hi => List.mem_range.mp hi) (List.mem_range.mpr hlt)
  have e1 : viRng1 (vaCons true (vVar 0) vaNil) [some (.tnt, .int (p : Int)), some (.tnt, .int n), some (.tnt, .int d), none] = .ok .sh (rangeL 0 (p : Int).toNat) [some (.tnt, .int (p : Int)), some (.tnt, .int n), some (.tnt, .int d), none] :=
    viRng1_ok (k := .sh) (by simp [Vi.mF, Vi.finF, Vi.startE, Vi.slotsE, Vi.sSeq, Vi.sNx, Vi.sSet, Vi.setMd, Vi.sRet, Vi.sIf, Vi.sExpr, Vi.sPar, Vi.sPar3, Vi.slotOf, Vi.slotP, Vi.sAug, Vi.sAsg, Vi.sApp, Vi.sFor, Vi.vVar, Vi.vC, Vi.vOp, Vi.vOpA, Vi.v1, Vi.v2, Vi.vUn, Vi.vCB, Vi.vCall, Vi.vaNil, Vi.vaCons, Vi.vaIt, Vi.vTup, Vi.vLst, Vi.shs, Vi.vIx, Vi.itemRE, Vi.atD, Vi.itemsOf, L2.atI, L2.ixN, Vi.gI, Vi.gI0, Vi.gAdd, Vi.gMul, Vi.gNeg, Vi.gLen, Vi.gInt, Vi.gAbs, Vi.gList, Vi.gGcd, Vi.gSum, Vi.gIsi, Vi.tyD, Vi.isa, Vi.argsA, Vi.argA, Vi.isSeq, Vi.flatI, Vi.flat, Vi.flatL, Vi.fitM, Vi.ksB, Vi.truth, Vi.vTru, Vi.tAndT, Vi.tOrT, Vi.tNotT, Vi.vAndV, Vi.vOrV, Vi.vNotV, Vi.vIf, Vi.lineN, Vi.γName, Vi.γTup, Vi.γCons, Vi.γNil, Vi.tgMd, Vi.tYesV]) (small_p hp)
  have e2 : sIf (vTru (vOp eqD (vVar 0) (vC (.int 0)))) (sRet (vCall [true, true] f__law_lowest (vaCons true (vVar 1) (vaCons true (vVar 2) vaNil)))) sNx [some (.tnt, .int (p : Int)), some (.tnt, .int n), some (.tnt, .int d), none] = .nx [some (.tnt, .int (p : Int)), some (.tnt, .int n), some (.tnt, .int d), none] := by
    simp [Vi.mF, Vi.finF, Vi.startE, Vi.slotsE, Vi.sSeq, Vi.sNx, Vi.sSet, Vi.setMd, Vi.sRet, Vi.sIf, Vi.sExpr, Vi.sPar, Vi.sPar3, Vi.slotOf, Vi.slotP, Vi.sAug, Vi.sAsg, Vi.sApp, Vi.sFor, Vi.vVar, Vi.vC, Vi.vOp, Vi.vOpA, Vi.v1, Vi.v2, Vi.vUn, Vi.vCB, Vi.vCall, Vi.vaNil, Vi.vaCons, Vi.vaIt, Vi.vTup, Vi.vLst, Vi.shs, Vi.vIx, Vi.itemRE, Vi.atD, Vi.itemsOf, L2.atI, L2.ixN, Vi.gI, Vi.gI0, Vi.gAdd, Vi.gMul, Vi.gNeg, Vi.gLen, Vi.gInt, Vi.gAbs, Vi.gList, Vi.gGcd, Vi.gSum, Vi.gIsi, Vi.tyD, Vi.isa, Vi.argsA, Vi.argA, Vi.isSeq, Vi.flatI, Vi.flat, Vi.flatL, Vi.fitM, Vi.ksB, Vi.truth, Vi.vTru, Vi.tAndT, Vi.tOrT, Vi.tNotT, Vi.vAndV, Vi.vOrV, Vi.vNotV, Vi.vIf, Vi.lineN, Vi.γName, Vi.γTup, Vi.γCons, Vi.γNil, Vi.tgMd, Vi.tYesV, p_nz hp]
  unfold f__law_number m__law_number
  have e0 : startE 4 [true, true, true] [.int (p : Int), .int n, .int d] = [some (.tnt, .int (p : Int)), some (.tnt, .int n), some (.tnt, .int d), none] := rfl
  rw [mF, e0, sSeq_ap, e2, SRes.bind_nx, sSeq_ap, sFor_ok e1, Int.toNat_natCast]
  unfold rangeL
  rw [key]
  rfl
/-! the operations by p -/
theorem number_p {n : Int} : f_number_of [.int p, .int n] = .rt (.int (n % p)) := by
  unfold f_number_of m_number_of
  simp [Vi.mF, Vi.finF, Vi.startE, Vi.slotsE, Vi.sSeq, Vi.sNx, Vi.sSet, Vi.setMd, Vi.sRet, Vi.sIf, Vi.sExpr, Vi.sPar, Vi.sPar3, Vi.slotOf, Vi.slotP, Vi.sAug, Vi.sAsg, Vi.sApp, Vi.sFor, Vi.vVar, Vi.vC, Vi.vOp, Vi.vOpA, Vi.v1, Vi.v2, Vi.vUn, Vi.vCB, Vi.vCall, Vi.vaNil, Vi.vaCons, Vi.vaIt, Vi.vTup, Vi.vLst, Vi.shs, Vi.vIx, Vi.itemRE, Vi.atD, Vi.itemsOf, L2.atI, L2.ixN, Vi.gI, Vi.gI0, Vi.gAdd, Vi.gMul, Vi.gNeg, Vi.gLen, Vi.gInt, Vi.gAbs, Vi.gList, Vi.gGcd, Vi.gSum, Vi.gIsi, Vi.tyD, Vi.isa, Vi.argsA, Vi.argA, Vi.isSeq, Vi.flatI, Vi.flat, Vi.flatL, Vi.fitM, Vi.ksB, Vi.truth, Vi.vTru, Vi.tAndT, Vi.tOrT, Vi.tNotT, Vi.vAndV, Vi.vOrV, Vi.vNotV, Vi.vIf, Vi.lineN, Vi.γName, Vi.γTup, Vi.γCons, Vi.γNil, Vi.tgMd, Vi.tYesV, p_pn hp]
theorem add_p {x y : Int} : f_add [.int p, .int x, .int y] = .rt (.int ((x + y) % p)) := by
  unfold f_add m_add
  simp [Vi.mF, Vi.finF, Vi.startE, Vi.slotsE, Vi.sSeq, Vi.sNx, Vi.sSet, Vi.setMd, Vi.sRet, Vi.sIf, Vi.sExpr, Vi.sPar, Vi.sPar3, Vi.slotOf, Vi.slotP, Vi.sAug, Vi.sAsg, Vi.sApp, Vi.sFor, Vi.vVar, Vi.vC, Vi.vOp, Vi.vOpA, Vi.v1, Vi.v2, Vi.vUn, Vi.vCB, Vi.vCall, Vi.vaNil, Vi.vaCons, Vi.vaIt, Vi.vTup, Vi.vLst, Vi.shs, Vi.vIx, Vi.itemRE, Vi.atD, Vi.itemsOf, L2.atI, L2.ixN, Vi.gI, Vi.gI0, Vi.gAdd, Vi.gMul, Vi.gNeg, Vi.gLen, Vi.gInt, Vi.gAbs, Vi.gList, Vi.gGcd, Vi.gSum, Vi.gIsi, Vi.tyD, Vi.isa, Vi.argsA, Vi.argA, Vi.isSeq, Vi.flatI, Vi.flat, Vi.flatL, Vi.fitM, Vi.ksB, Vi.truth, Vi.vTru, Vi.tAndT, Vi.tOrT, Vi.tNotT, Vi.vAndV, Vi.vOrV, Vi.vNotV, Vi.vIf, Vi.lineN, Vi.γName, Vi.γTup, Vi.γCons, Vi.γNil, Vi.tgMd, Vi.tYesV, p_pn hp]
theorem neg_p {x : Int} : f_negate [.int p, .int x] = .rt (.int ((p - x) % p)) := by
  unfold f_negate m_negate
  simp [Vi.mF, Vi.finF, Vi.startE, Vi.slotsE, Vi.sSeq, Vi.sNx, Vi.sSet, Vi.setMd, Vi.sRet, Vi.sIf, Vi.sExpr, Vi.sPar, Vi.sPar3, Vi.slotOf, Vi.slotP, Vi.sAug, Vi.sAsg, Vi.sApp, Vi.sFor, Vi.vVar, Vi.vC, Vi.vOp, Vi.vOpA, Vi.v1, Vi.v2, Vi.vUn, Vi.vCB, Vi.vCall, Vi.vaNil, Vi.vaCons, Vi.vaIt, Vi.vTup, Vi.vLst, Vi.shs, Vi.vIx, Vi.itemRE, Vi.atD, Vi.itemsOf, L2.atI, L2.ixN, Vi.gI, Vi.gI0, Vi.gAdd, Vi.gMul, Vi.gNeg, Vi.gLen, Vi.gInt, Vi.gAbs, Vi.gList, Vi.gGcd, Vi.gSum, Vi.gIsi, Vi.tyD, Vi.isa, Vi.argsA, Vi.argA, Vi.isSeq, Vi.flatI, Vi.flat, Vi.flatL, Vi.fitM, Vi.ksB, Vi.truth, Vi.vTru, Vi.tAndT, Vi.tOrT, Vi.tNotT, Vi.vAndV, Vi.vOrV, Vi.vNotV, Vi.vIf, Vi.lineN, Vi.γName, Vi.γTup, Vi.γCons, Vi.γNil, Vi.tgMd, Vi.tYesV, p_pn hp]
theorem sub_p {x y : Int} : f_subtract [.int p, .int x, .int y] = .rt (.int ((x + (p - y) % p) % p)) := by
  unfold f_subtract m_subtract
  simp [Vi.mF, Vi.finF, Vi.startE, Vi.slotsE, Vi.sSeq, Vi.sNx, Vi.sSet, Vi.setMd, Vi.sRet, Vi.sIf, Vi.sExpr, Vi.sPar, Vi.sPar3, Vi.slotOf, Vi.slotP, Vi.sAug, Vi.sAsg, Vi.sApp, Vi.sFor, Vi.vVar, Vi.vC, Vi.vOp, Vi.vOpA, Vi.v1, Vi.v2, Vi.vUn, Vi.vCB, Vi.vCall, Vi.vaNil, Vi.vaCons, Vi.vaIt, Vi.vTup, Vi.vLst, Vi.shs, Vi.vIx, Vi.itemRE, Vi.atD, Vi.itemsOf, L2.atI, L2.ixN, Vi.gI, Vi.gI0, Vi.gAdd, Vi.gMul, Vi.gNeg, Vi.gLen, Vi.gInt, Vi.gAbs, Vi.gList, Vi.gGcd, Vi.gSum, Vi.gIsi, Vi.tyD, Vi.isa, Vi.argsA, Vi.argA, Vi.isSeq, Vi.flatI, Vi.flat, Vi.flatL, Vi.fitM, Vi.ksB, Vi.truth, Vi.vTru, Vi.tAndT, Vi.tOrT, Vi.tNotT, Vi.vAndV, Vi.vOrV, Vi.vNotV, Vi.vIf, Vi.lineN, Vi.γName, Vi.γTup, Vi.γCons, Vi.γNil, Vi.tgMd, Vi.tYesV, neg_p hp, add_p hp]
theorem mul_p {x y : Int} (h : x.natAbs.log2 + y.natAbs.log2 < 100000000) : f_multiply [.int p, .int x, .int y] = .rt (.int (x * y % p)) := by
  unfold f_multiply m_multiply
  simp [Vi.mF, Vi.finF, Vi.startE, Vi.slotsE, Vi.sSeq, Vi.sNx, Vi.sSet, Vi.setMd, Vi.sRet, Vi.sIf, Vi.sExpr, Vi.sPar, Vi.sPar3, Vi.slotOf, Vi.slotP, Vi.sAug, Vi.sAsg, Vi.sApp, Vi.sFor, Vi.vVar, Vi.vC, Vi.vOp, Vi.vOpA, Vi.v1, Vi.v2, Vi.vUn, Vi.vCB, Vi.vCall, Vi.vaNil, Vi.vaCons, Vi.vaIt, Vi.vTup, Vi.vLst, Vi.shs, Vi.vIx, Vi.itemRE, Vi.atD, Vi.itemsOf, L2.atI, L2.ixN, Vi.gI, Vi.gI0, Vi.gAdd, Vi.gMul, Vi.gNeg, Vi.gLen, Vi.gInt, Vi.gAbs, Vi.gList, Vi.gGcd, Vi.gSum, Vi.gIsi, Vi.tyD, Vi.isa, Vi.argsA, Vi.argA, Vi.isSeq, Vi.flatI, Vi.flat, Vi.flatL, Vi.fitM, Vi.ksB, Vi.truth, Vi.vTru, Vi.tAndT, Vi.tOrT, Vi.tNotT, Vi.vAndV, Vi.vOrV, Vi.vNotV, Vi.vIf, Vi.lineN, Vi.γName, Vi.γTup, Vi.γCons, Vi.γNil, Vi.tgMd, Vi.tYesV, p_pn hp, h]
end
end Ma

set_option maxRecDepth 100000
set_option linter.all false
namespace Ma
open PySem Vi Mi
section
variable {p : Nat} (hp : p ∈ P5)
include hp
theorem one_of {x r : Int} (h : Rs p 1 x r) : r * x % p = 1 := by
  obtain ⟨_, _, t, h3⟩ := h
  have e : r * x = 1 + p * t := by omega
  rw [e, Int.add_mul_emod_self_left]
  have := pos5 hp
  exact Int.emod_eq_of_lt (by omega) (by omega)
theorem inv_loop {x : Int} (hx : x % p ≠ 0) (h0 : 0 ≤ x) (h1 : x < p) (r : Nat) (hr : Rs p 1 x r) : ∀ (m k n : Nat), k + m = r → m < n →
    whL t1_invert b2_invert n [some (.tnt, .int p), some (.tnt, .int x), some (.sh, .int k)] = .nx [some (.tnt, .int p), some (.tnt, .int x), some (.sh, .int r)] := by
  intro m
  induction m with
  | zero =>
    intro k n hk hn
    obtain ⟨n, rfl⟩ : ∃ l, n = l + 1 := ⟨n - 1, by omega⟩
    have hk' : k = r := by omega
    subst hk'
    have hb := hr.2.1
    have hm := (Bt_small hp (k := (k : Int)) (by omega) (by omega)).mulOk (Bt_small hp h0 h1) (by decide)
    simp only [Int.natAbs_natCast] at hm
    have e1 : t1_invert [some (.tnt, .int p), some (.tnt, .int x), some (.sh, .int k)] = .ok false [some (.tnt, .int p), some (.tnt, .int x), some (.sh, .int k)] := by
      unfold t1_invert
      simp [Vi.mF, Vi.finF, Vi.startE, Vi.slotsE, Vi.sSeq, Vi.sNx, Vi.sSet, Vi.setMd, Vi.sRet, Vi.sIf, Vi.sExpr, Vi.sPar, Vi.sPar3, Vi.slotOf, Vi.slotP, Vi.sAug, Vi.sAsg, Vi.sApp, Vi.sFor, Vi.vVar, Vi.vC, Vi.vOp, Vi.vOpA, Vi.v1, Vi.v2, Vi.vUn, Vi.vCB, Vi.vCall, Vi.vaNil, Vi.vaCons, Vi.vaIt, Vi.vTup, Vi.vLst, Vi.shs, Vi.vIx, Vi.itemRE, Vi.atD, Vi.itemsOf, L2.atI, L2.ixN, Vi.gI, Vi.gI0, Vi.gAdd, Vi.gMul, Vi.gNeg, Vi.gLen, Vi.gInt, Vi.gAbs, Vi.gList, Vi.gGcd, Vi.gSum, Vi.gIsi, Vi.tyD, Vi.isa, Vi.argsA, Vi.argA, Vi.isSeq, Vi.flatI, Vi.flat, Vi.flatL, Vi.fitM, Vi.ksB, Vi.truth, Vi.vTru, Vi.tAndT, Vi.tOrT, Vi.tNotT, Vi.vAndV, Vi.vOrV, Vi.vNotV, Vi.vIf, Vi.lineN, Vi.γName, Vi.γTup, Vi.γCons, Vi.γNil, Vi.tgMd, Vi.tYesV, hm, p_pn hp, one_of hp hr]
    unfold whL
    rw [e1]
    rfl
  | succ m ih =>
    intro k n hk hn
    obtain ⟨n, rfl⟩ : ∃ l, n = l + 1 := ⟨n - 1, by omega⟩
    have hb := hr.2.1
    have hm := (Bt_small hp (k := (k : Int)) (by omega) (by omega)).mulOk (Bt_small hp h0 h1) (by decide)
    simp only [Int.natAbs_natCast] at hm
    have hne : ¬ (k : Int) * x % p = 1 := fun z => by
      have e := Rs.uniq hp hx (l := (k : Int)) hr ⟨by omega, by omega, (k : Int) * x / p, by have := Int.emod_add_mul_ediv ((k : Int) * x) p; omega⟩
      omega
    have e1 : t1_invert [some (.tnt, .int p), some (.tnt, .int x), some (.sh, .int k)] = .ok true [some (.tnt, .int p), some (.tnt, .int x), some (.sh, .int k)] := by
      unfold t1_invert
      simp [Vi.mF, Vi.finF, Vi.startE, Vi.slotsE, Vi.sSeq, Vi.sNx, Vi.sSet, Vi.setMd, Vi.sRet, Vi.sIf, Vi.sExpr, Vi.sPar, Vi.sPar3, Vi.slotOf, Vi.slotP, Vi.sAug, Vi.sAsg, Vi.sApp, Vi.sFor, Vi.vVar, Vi.vC, Vi.vOp, Vi.vOpA, Vi.v1, Vi.v2, Vi.vUn, Vi.vCB, Vi.vCall, Vi.vaNil, Vi.vaCons, Vi.vaIt, Vi.vTup, Vi.vLst, Vi.shs, Vi.vIx, Vi.itemRE, Vi.atD, Vi.itemsOf, L2.atI, L2.ixN, Vi.gI, Vi.gI0, Vi.gAdd, Vi.gMul, Vi.gNeg, Vi.gLen, Vi.gInt, Vi.gAbs, Vi.gList, Vi.gGcd, Vi.gSum, Vi.gIsi, Vi.tyD, Vi.isa, Vi.argsA, Vi.argA, Vi.isSeq, Vi.flatI, Vi.flat, Vi.flatL, Vi.fitM, Vi.ksB, Vi.truth, Vi.vTru, Vi.tAndT, Vi.tOrT, Vi.tNotT, Vi.vAndV, Vi.vOrV, Vi.vNotV, Vi.vIf, Vi.lineN, Vi.γName, Vi.γTup, Vi.γCons, Vi.γNil, Vi.tgMd, Vi.tYesV, hm, p_pn hp, hne]
    have e2 : b2_invert [some (.tnt, .int p), some (.tnt, .int x), some (.sh, .int k)] = .nx [some (.tnt, .int p), some (.tnt, .int x), some (.sh, .int ((k + 1 : Nat) : Int))] := by
      unfold b2_invert
      simp [Vi.mF, Vi.finF, Vi.startE, Vi.slotsE, Vi.sSeq, Vi.sNx, Vi.sSet, Vi.setMd, Vi.sRet, Vi.sIf, Vi.sExpr, Vi.sPar, Vi.sPar3, Vi.slotOf, Vi.slotP, Vi.sAug, Vi.sAsg, Vi.sApp, Vi.sFor, Vi.vVar, Vi.vC, Vi.vOp, Vi.vOpA, Vi.v1, Vi.v2, Vi.vUn, Vi.vCB, Vi.vCall, Vi.vaNil, Vi.vaCons, Vi.vaIt, Vi.vTup, Vi.vLst, Vi.shs, Vi.vIx, Vi.itemRE, Vi.atD, Vi.itemsOf, L2.atI, L2.ixN, Vi.gI, Vi.gI0, Vi.gAdd, Vi.gMul, Vi.gNeg, Vi.gLen, Vi.gInt, Vi.gAbs, Vi.gList, Vi.gGcd, Vi.gSum, Vi.gIsi, Vi.tyD, Vi.isa, Vi.argsA, Vi.argA, Vi.isSeq, Vi.flatI, Vi.flat, Vi.flatL, Vi.fitM, Vi.ksB, Vi.truth, Vi.vTru, Vi.tAndT, Vi.tOrT, Vi.tNotT, Vi.vAndV, Vi.vOrV, Vi.vNotV, Vi.vIf, Vi.lineN, Vi.γName, Vi.γTup, Vi.γCons, Vi.γNil, Vi.tgMd, Vi.tYesV]
    unfold whL
    rw [e1]
    simp only [RT.toS_ok]
    rw [e2]
    exact ih (k + 1) n (by omega) (by omega)
theorem inv_p {x : Int} (hx : x % p ≠ 0) (h0 : 0 ≤ x) (h1 : x < p) : f_invert [.int p, .int x] = .rt (.int (rs p 1 x)) := by
  have hr := rs_ok hp (n := 1) hx
  obtain ⟨r, er⟩ : ∃ r : Nat, rs p 1 x = r := ⟨(rs p 1 x).toNat, by have := hr.1; omega⟩
  rw [er] at hr ⊢
  have hr1 : 1 ≤ r := by
    rcases Nat.eq_zero_or_pos r with z | z
    · subst z
      have := one_of hp hr
      simp at this
    · exact z
  have hb := pos5 hp
  have hlt := hr.2.1
  have key := inv_loop hp hx h0 h1 r hr (r - 1) 1 wfuel (by omega) (wfuel_big (Nat.lt_of_lt_of_le (m := 2 ^ 4) (by omega) (Nat.pow_le_pow_right (by decide) (by decide))))
  have hx0 : ¬ x = 0 := fun z => hx (by rw [z]; simp)
  have hn := number_p hp (n := 0)
  simp only [Int.zero_emod] at hn
  unfold f_invert m_invert
  simp only [Int.natCast_one] at key
  simp [Vi.mF, Vi.finF, Vi.startE, Vi.slotsE, Vi.sSeq, Vi.sNx, Vi.sSet, Vi.setMd, Vi.sRet, Vi.sIf, Vi.sExpr, Vi.sPar, Vi.sPar3, Vi.slotOf, Vi.slotP, Vi.sAug, Vi.sAsg, Vi.sApp, Vi.sFor, Vi.vVar, Vi.vC, Vi.vOp, Vi.vOpA, Vi.v1, Vi.v2, Vi.vUn, Vi.vCB, Vi.vCall, Vi.vaNil, Vi.vaCons, Vi.vaIt, Vi.vTup, Vi.vLst, Vi.shs, Vi.vIx, Vi.itemRE, Vi.atD, Vi.itemsOf, L2.atI, L2.ixN, Vi.gI, Vi.gI0, Vi.gAdd, Vi.gMul, Vi.gNeg, Vi.gLen, Vi.gInt, Vi.gAbs, Vi.gList, Vi.gGcd, Vi.gSum, Vi.gIsi, Vi.tyD, Vi.isa, Vi.argsA, Vi.argA, Vi.isSeq, Vi.flatI, Vi.flat, Vi.flatL, Vi.fitM, Vi.ksB, Vi.truth, Vi.vTru, Vi.tAndT, Vi.tOrT, Vi.tNotT, Vi.vAndV, Vi.vOrV, Vi.vNotV, Vi.vIf, Vi.lineN, Vi.γName, Vi.γTup, Vi.γCons, Vi.γNil, Vi.tgMd, Vi.tYesV, hn, hx0, p_nz hp, key]
theorem invz_p : f_invert [.int p, .int 0] = .ex ⟨"NoInverse", none⟩ := by
  have hn := number_p hp (n := 0)
  simp only [Int.zero_emod] at hn
  unfold f_invert m_invert
  simp [Vi.mF, Vi.finF, Vi.startE, Vi.slotsE, Vi.sSeq, Vi.sNx, Vi.sSet, Vi.setMd, Vi.sRet, Vi.sIf, Vi.sExpr, Vi.sPar, Vi.sPar3, Vi.slotOf, Vi.slotP, Vi.sAug, Vi.sAsg, Vi.sApp, Vi.sFor, Vi.vVar, Vi.vC, Vi.vOp, Vi.vOpA, Vi.v1, Vi.v2, Vi.vUn, Vi.vCB, Vi.vCall, Vi.vaNil, Vi.vaCons, Vi.vaIt, Vi.vTup, Vi.vLst, Vi.shs, Vi.vIx, Vi.itemRE, Vi.atD, Vi.itemsOf, L2.atI, L2.ixN, Vi.gI, Vi.gI0, Vi.gAdd, Vi.gMul, Vi.gNeg, Vi.gLen, Vi.gInt, Vi.gAbs, Vi.gList, Vi.gGcd, Vi.gSum, Vi.gIsi, Vi.tyD, Vi.isa, Vi.argsA, Vi.argA, Vi.isSeq, Vi.flatI, Vi.flat, Vi.flatL, Vi.fitM, Vi.ksB, Vi.truth, Vi.vTru, Vi.tAndT, Vi.tOrT, Vi.tNotT, Vi.vAndV, Vi.vOrV, Vi.vNotV, Vi.vIf, Vi.lineN, Vi.γName, Vi.γTup, Vi.γCons, Vi.γNil, Vi.tgMd, Vi.tYesV, hn]
theorem div_p {x y : Int} (hx0 : 0 ≤ x) (hx1 : x < p) (hy : y % p ≠ 0) (h0 : 0 ≤ y) (h1 : y < p) : f_divide [.int p, .int x, .int y] = .rt (.int (x * rs p 1 y % p)) := by
  have hr := rs_ok hp (n := 1) hy
  have hm := mul_p hp (x := x) (y := rs p 1 y) ((Bt_small hp hx0 hx1).mulOk (Bt_small hp hr.1 hr.2.1) (by decide))
  unfold f_divide m_divide
  simp [Vi.mF, Vi.finF, Vi.startE, Vi.slotsE, Vi.sSeq, Vi.sNx, Vi.sSet, Vi.setMd, Vi.sRet, Vi.sIf, Vi.sExpr, Vi.sPar, Vi.sPar3, Vi.slotOf, Vi.slotP, Vi.sAug, Vi.sAsg, Vi.sApp, Vi.sFor, Vi.vVar, Vi.vC, Vi.vOp, Vi.vOpA, Vi.v1, Vi.v2, Vi.vUn, Vi.vCB, Vi.vCall, Vi.vaNil, Vi.vaCons, Vi.vaIt, Vi.vTup, Vi.vLst, Vi.shs, Vi.vIx, Vi.itemRE, Vi.atD, Vi.itemsOf, L2.atI, L2.ixN, Vi.gI, Vi.gI0, Vi.gAdd, Vi.gMul, Vi.gNeg, Vi.gLen, Vi.gInt, Vi.gAbs, Vi.gList, Vi.gGcd, Vi.gSum, Vi.gIsi, Vi.tyD, Vi.isa, Vi.argsA, Vi.argA, Vi.isSeq, Vi.flatI, Vi.flat, Vi.flatL, Vi.fitM, Vi.ksB, Vi.truth, Vi.vTru, Vi.tAndT, Vi.tOrT, Vi.tNotT, Vi.vAndV, Vi.vOrV, Vi.vNotV, Vi.vIf, Vi.lineN, Vi.γName, Vi.γTup, Vi.γCons, Vi.γNil, Vi.tgMd, Vi.tYesV, inv_p hp hy h0 h1, hm]
theorem divz_p {x : Int} : f_divide [.int p, .int x, .int 0] = .ex ⟨"NoInverse", none⟩ := by
  unfold f_divide m_divide
  simp [Vi.mF, Vi.finF, Vi.startE, Vi.slotsE, Vi.sSeq, Vi.sNx, Vi.sSet, Vi.setMd, Vi.sRet, Vi.sIf, Vi.sExpr, Vi.sPar, Vi.sPar3, Vi.slotOf, Vi.slotP, Vi.sAug, Vi.sAsg, Vi.sApp, Vi.sFor, Vi.vVar, Vi.vC, Vi.vOp, Vi.vOpA, Vi.v1, Vi.v2, Vi.vUn, Vi.vCB, Vi.vCall, Vi.vaNil, Vi.vaCons, Vi.vaIt, Vi.vTup, Vi.vLst, Vi.shs, Vi.vIx, Vi.itemRE, Vi.atD, Vi.itemsOf, L2.atI, L2.ixN, Vi.gI, Vi.gI0, Vi.gAdd, Vi.gMul, Vi.gNeg, Vi.gLen, Vi.gInt, Vi.gAbs, Vi.gList, Vi.gGcd, Vi.gSum, Vi.gIsi, Vi.tyD, Vi.isa, Vi.argsA, Vi.argA, Vi.isSeq, Vi.flatI, Vi.flat, Vi.flatL, Vi.fitM, Vi.ksB, Vi.truth, Vi.vTru, Vi.tAndT, Vi.tOrT, Vi.tNotT, Vi.vAndV, Vi.vOrV, Vi.vNotV, Vi.vIf, Vi.lineN, Vi.γName, Vi.γTup, Vi.γCons, Vi.γNil, Vi.tgMd, Vi.tYesV, invz_p hp]
end
/-! ### numbers of a field -/
def P6 : List Nat := [2, 3, 5, 7, 11, 0]
theorem p6 {p : Nat} (h : p ∈ P6) : p = 0 ∨ p ∈ P5 := by
  simp [P6, P5] at *
  omega
/-- n / d in the field p -/
def el (p : Nat) (n d : Int) : D := match p with
  | 0 => en (Rat.divInt n d)
  | p + 1 => .int (rs (p + 1) n d)
theorem el_p {p : Nat} (hp : p ∈ P5) {n d : Int} : el p n d = .int (rs p n d) := by
  have := p_pn hp
  obtain ⟨q, rfl⟩ : ∃ q, p = q + 1 := ⟨p - 1, by omega⟩
  rfl
theorem rs_one {p : Nat} (hp : p ∈ P5) {n : Int} : rs p n 1 = n % p := by
  have hb := pos5 hp
  refine rs_eq hp (by rw [Int.emod_eq_of_lt] <;> omega) ⟨Int.emod_nonneg _ (by omega), Int.emod_lt_of_pos _ (by omega), -(n / p), ?_⟩
  have := Int.emod_add_mul_ediv n p
  rw [Int.mul_neg]
  omega
theorem un_mul {p : Nat} (hp : p ∈ P6) {d e : Int} (hd : d % p ≠ 0) (he : e % p ≠ 0) : d * e % p ≠ 0 := by
  rcases p6 hp with rfl | hp
  · simp at *
    exact ⟨hd, he⟩
  · intro z
    have hb := pos5 hp
    have k1 := Rs.uniq hp hd (n := 0) (k := 0) (l := e % p) ⟨by omega, by omega, 0, by simp⟩ ⟨Int.emod_nonneg _ (by omega), Int.emod_lt_of_pos _ (by omega), d * e / p - d * (e / p), by
      have h1 := Int.emod_add_mul_ediv (d * e) p
      have h2 := Int.emod_add_mul_ediv e p
      rw [z] at h1
      generalize d * e / p = u at *
      generalize e / p = w at *
      generalize e % p = m at *
      subst h2
      grind⟩
    exact he k1.symm
theorem el_congr {p : Nat} (hp : p ∈ P6) {n d n' d' : Int} (hd : d % p ≠ 0) (hd' : d' % p ≠ 0) (h : n * d' = n' * d) : el p n d = el p n' d' := by
  rcases p6 hp with rfl | hp5
  · simp only [Int.natCast_zero, Int.emod_zero, Int.ofNat_zero] at hd hd'
    show en (Rat.divInt n d) = en (Rat.divInt n' d')
    rw [(Rat.divInt_eq_divInt_iff hd hd').mpr h]
  · rw [el_p hp5, el_p hp5]
    congr 1
    obtain ⟨a1, a2, t, a3⟩ := rs_ok hp5 (n := n) hd
    obtain ⟨b1, b2, u, b3⟩ := rs_ok hp5 (n := n') hd'
    have hdd := un_mul hp hd hd'
    refine Rs.uniq hp5 hdd (n := n * d') ⟨a1, a2, t * d', ?_⟩ ⟨b1, b2, u * d, ?_⟩
    · generalize rs p n d = x at *
      have : n = x * d - p * t := by omega
      subst this
      grind
    · generalize rs p n' d' = x at *
      rw [h]
      have : n' = x * d' - p * u := by omega
      subst this
      grind
theorem flat_el {p : Nat} {n d : Int} : flat (el p n d) = true := by
  unfold el
  split
  · simp [en, flat, flatL]
  · simp [flat]
end Ma

set_option maxRecDepth 100000
set_option linter.all false
namespace Ma
open PySem Vi Mi
section
variable {p : Nat} (hp : p ∈ P5)
include hp
theorem md {x : Int} : 0 ≤ x % p ∧ x % p < p := ⟨Int.emod_nonneg _ (by have := pos5 hp; omega), Int.emod_lt_of_pos _ (by have := pos5 hp; omega)⟩
theorem p56 : p ∈ P6 := by simp [P5, P6] at *; omega
theorem rs_add {n d n' d' : Int} (hd : d % p ≠ 0) (hd' : d' % p ≠ 0) : (rs p n d + rs p n' d') % p = rs p (n * d' + n' * d) (d * d') := by
  obtain ⟨a1, a2, t, a3⟩ := rs_ok hp (n := n) hd
  obtain ⟨b1, b2, u, b3⟩ := rs_ok hp (n := n') hd'
  refine (rs_eq hp (un_mul (p56 hp) hd hd') ⟨(md hp).1, (md hp).2, t * d' + u * d - (rs p n d + rs p n' d') / p * (d * d'), ?_⟩).symm
  rw [emod_wit]
  generalize (rs p n d + rs p n' d') / p = q at *
  generalize rs p n d = x at *
  generalize rs p n' d' = y at *
  have e1 : n = x * d - p * t := by omega
  have e2 : n' = y * d' - p * u := by omega
  subst e1 e2
  grind
theorem rs_mul {n d n' d' : Int} (hd : d % p ≠ 0) (hd' : d' % p ≠ 0) : rs p n d * rs p n' d' % p = rs p (n * n') (d * d') := by
  obtain ⟨a1, a2, t, a3⟩ := rs_ok hp (n := n) hd
  obtain ⟨b1, b2, u, b3⟩ := rs_ok hp (n := n') hd'
  refine (rs_eq hp (un_mul (p56 hp) hd hd') ⟨(md hp).1, (md hp).2, t * (rs p n' d' * d') + n * u - (rs p n d * rs p n' d') / p * (d * d'), ?_⟩).symm
  rw [emod_wit]
  generalize (rs p n d * rs p n' d') / p = q at *
  generalize rs p n d = x at *
  generalize rs p n' d' = y at *
  have e1 : n = x * d - p * t := by omega
  have e2 : n' = y * d' - p * u := by omega
  subst e1 e2
  grind
theorem rs_neg {n d : Int} (hd : d % p ≠ 0) : (p - rs p n d) % p = rs p (-n) d := by
  obtain ⟨a1, a2, t, a3⟩ := rs_ok hp (n := n) hd
  refine (rs_eq hp hd ⟨(md hp).1, (md hp).2, d - t - (p - rs p n d) / p * d, ?_⟩).symm
  rw [emod_wit]
  generalize (p - rs p n d) / p = q at *
  generalize rs p n d = x at *
  have e1 : n = x * d - p * t := by omega
  subst e1
  grind
theorem rs_unit {n d : Int} (hd : d % p ≠ 0) (hn : n % p ≠ 0) : rs p n d % p ≠ 0 := by
  obtain ⟨a1, a2, t, a3⟩ := rs_ok hp (n := n) hd
  intro z
  rw [Int.emod_eq_of_lt a1 a2] at z
  rw [z] at a3
  apply hn
  have : n = p * (-t) := by rw [Int.mul_neg]; omega
  rw [this]
  exact Int.mul_emod_right _ _
theorem rs_zero {n d : Int} (hd : d % p ≠ 0) (hn : n % p = 0) : rs p n d = 0 := by
  refine rs_eq hp hd ⟨by omega, by have := pos5 hp; omega, -(n / p), ?_⟩
  have := Int.emod_add_mul_ediv n p
  rw [Int.mul_neg]
  omega
theorem rs_inv {n d : Int} (hd : d % p ≠ 0) (hn : n % p ≠ 0) : rs p 1 (rs p n d) = rs p d n := by
  obtain ⟨a1, a2, t, a3⟩ := rs_ok hp (n := d) hn
  obtain ⟨b1, b2, u, b3⟩ := rs_ok hp (n := n) hd
  -- rs d n * rs n d - 1 is a multiple of p: by cancelling d
  have key : (rs p d n * rs p n d) % p = 1 := by
    have e := rs_mul hp (n := d) (d := n) (n' := n) (d' := d) hn hd
    rw [e]
    refine rs_eq hp (un_mul (p56 hp) hn hd) ⟨by omega, by have := pos5 hp; omega, 0, ?_⟩
    grind
  refine rs_eq hp (rs_unit hp hd hn) ⟨a1, a2, rs p d n * rs p n d / p, ?_⟩
  have := Int.emod_add_mul_ediv (rs p d n * rs p n d) p
  omega
end
section
variable {p : Nat} (hp : p ∈ P6)
include hp
theorem un0 {d : Int} (hp0 : p = 0) (hd : d % p ≠ 0) : d ≠ 0 := by subst hp0; simpa using hd
theorem e_num {n d : Int} (hd : d % p ≠ 0) (hs : Bt 8000 d) : f__law_number [.int p, .int n, .int d] = .rt (el p n d) := by
  rcases p6 hp with rfl | hp5
  · have h := llowest_ok (n := n) (un0 hp rfl hd) hs
    show f__law_number [.int 0, .int n, .int d] = .rt (en (Rat.divInt n d))
    simp only [en] at h ⊢
    unfold f__law_number m__law_number
    simp [Vi.mF, Vi.finF, Vi.startE, Vi.slotsE, Vi.sSeq, Vi.sNx, Vi.sSet, Vi.setMd, Vi.sRet, Vi.sIf, Vi.sExpr, Vi.sPar, Vi.sPar3, Vi.slotOf, Vi.slotP, Vi.sAug, Vi.sAsg, Vi.sApp, Vi.sFor, Vi.vVar, Vi.vC, Vi.vOp, Vi.vOpA, Vi.v1, Vi.v2, Vi.vUn, Vi.vCB, Vi.vCall, Vi.vaNil, Vi.vaCons, Vi.vaIt, Vi.vTup, Vi.vLst, Vi.shs, Vi.vIx, Vi.itemRE, Vi.atD, Vi.itemsOf, L2.atI, L2.ixN, Vi.gI, Vi.gI0, Vi.gAdd, Vi.gMul, Vi.gNeg, Vi.gLen, Vi.gInt, Vi.gAbs, Vi.gList, Vi.gGcd, Vi.gSum, Vi.gIsi, Vi.tyD, Vi.isa, Vi.argsA, Vi.argA, Vi.isSeq, Vi.flatI, Vi.flat, Vi.flatL, Vi.fitM, Vi.ksB, Vi.truth, Vi.vTru, Vi.tAndT, Vi.tOrT, Vi.tNotT, Vi.vAndV, Vi.vOrV, Vi.vNotV, Vi.vIf, Vi.lineN, Vi.γName, Vi.γTup, Vi.γCons, Vi.γNil, Vi.tgMd, Vi.tYesV, h]
  · rw [el_p hp5]
    exact lnum_p hp5 hd hs
theorem e_of {n : Int} : f_number_of [.int p, .int n] = .rt (el p n 1) := by
  rcases p6 hp with rfl | hp5
  · show f_number_of [.int 0, .int n] = .rt (en (Rat.divInt n 1))
    rw [number0]
    have e : ((n : Rat)) = Rat.divInt n 1 := by apply Rat.ext <;> simp [Rat.num_divInt, Rat.den_divInt]
    rw [e]
  · rw [el_p hp5, rs_one hp5]
    exact number_p hp5
theorem e_add {n d n' d' : Int} (hd : d % p ≠ 0) (hd' : d' % p ≠ 0) (h1 : Bt 3000 n) (h2 : Bt 3000 d) (h3 : Bt 3000 n') (h4 : Bt 3000 d') : f_add [.int p, el p n d, el p n' d'] = .rt (el p (n * d' + n' * d) (d * d')) := by
  rcases p6 hp with rfl | hp5
  · show f_add [.int 0, en (Rat.divInt n d), en (Rat.divInt n' d')] = .rt (en (Rat.divInt (n * d' + n' * d) (d * d')))
    rw [add0 (num_dvd_le (un0 hp rfl hd) h1 h2) (num_dvd_le (un0 hp rfl hd') h3 h4), Rat.divInt_add_divInt _ _ (un0 hp rfl hd) (un0 hp rfl hd')]
  · rw [el_p hp5, el_p hp5, el_p hp5, add_p hp5, rs_add hp5 hd hd']
theorem e_mul {n d n' d' : Int} (hd : d % p ≠ 0) (hd' : d' % p ≠ 0) (h1 : Bt 3000 n) (h2 : Bt 3000 d) (h3 : Bt 3000 n') (h4 : Bt 3000 d') : f_multiply [.int p, el p n d, el p n' d'] = .rt (el p (n * n') (d * d')) := by
  rcases p6 hp with rfl | hp5
  · show f_multiply [.int 0, en (Rat.divInt n d), en (Rat.divInt n' d')] = .rt (en (Rat.divInt (n * n') (d * d')))
    rw [mul0 (num_dvd_le (un0 hp rfl hd) h1 h2) (num_dvd_le (un0 hp rfl hd') h3 h4), Rat.divInt_mul_divInt]
  · obtain ⟨a1, a2, _⟩ := rs_ok hp5 (n := n) hd
    obtain ⟨b1, b2, _⟩ := rs_ok hp5 (n := n') hd'
    rw [el_p hp5, el_p hp5, el_p hp5, mul_p hp5 ((Bt_small hp5 a1 a2).mulOk (Bt_small hp5 b1 b2) (by decide)), rs_mul hp5 hd hd']
theorem e_neg {n d : Int} (hd : d % p ≠ 0) : f_negate [.int p, el p n d] = .rt (el p (-n) d) := by
  rcases p6 hp with rfl | hp5
  · show f_negate [.int 0, en (Rat.divInt n d)] = .rt (en (Rat.divInt (-n) d))
    rw [neg0, Rat.neg_divInt]
  · rw [el_p hp5, el_p hp5, neg_p hp5, rs_neg hp5 hd]
theorem Un_neg {n d n' d' : Int} : n * d' + -n' * d = n * d' - n' * d := by rw [Int.neg_mul]; omega
theorem e_sub {n d n' d' : Int} (hd : d % p ≠ 0) (hd' : d' % p ≠ 0) (h1 : Bt 3000 n) (h2 : Bt 3000 d) (h3 : Bt 3000 n') (h4 : Bt 3000 d') : f_subtract [.int p, el p n d, el p n' d'] = .rt (el p (n * d' - n' * d) (d * d')) := by
  have a := e_neg hp (n := n') hd'
  have b := e_add hp hd hd' h1 h2 h3.neg h4
  rw [show n * d' + -n' * d = n * d' - n' * d by rw [Int.neg_mul]; omega] at b
  unfold f_subtract m_subtract
  simp [Vi.mF, Vi.finF, Vi.startE, Vi.slotsE, Vi.sSeq, Vi.sNx, Vi.sSet, Vi.setMd, Vi.sRet, Vi.sIf, Vi.sExpr, Vi.sPar, Vi.sPar3, Vi.slotOf, Vi.slotP, Vi.sAug, Vi.sAsg, Vi.sApp, Vi.sFor, Vi.vVar, Vi.vC, Vi.vOp, Vi.vOpA, Vi.v1, Vi.v2, Vi.vUn, Vi.vCB, Vi.vCall, Vi.vaNil, Vi.vaCons, Vi.vaIt, Vi.vTup, Vi.vLst, Vi.shs, Vi.vIx, Vi.itemRE, Vi.atD, Vi.itemsOf, L2.atI, L2.ixN, Vi.gI, Vi.gI0, Vi.gAdd, Vi.gMul, Vi.gNeg, Vi.gLen, Vi.gInt, Vi.gAbs, Vi.gList, Vi.gGcd, Vi.gSum, Vi.gIsi, Vi.tyD, Vi.isa, Vi.argsA, Vi.argA, Vi.isSeq, Vi.flatI, Vi.flat, Vi.flatL, Vi.fitM, Vi.ksB, Vi.truth, Vi.vTru, Vi.tAndT, Vi.tOrT, Vi.tNotT, Vi.vAndV, Vi.vOrV, Vi.vNotV, Vi.vIf, Vi.lineN, Vi.γName, Vi.γTup, Vi.γCons, Vi.γNil, Vi.tgMd, Vi.tYesV, flat_el, a, b]
theorem e_inv {n d : Int} (hd : d % p ≠ 0) (hn : n % p ≠ 0) (h1 : Bt 3000 n) (h2 : Bt 3000 d) : f_invert [.int p, el p n d] = .rt (el p d n) := by
  rcases p6 hp with rfl | hp5
  · show f_invert [.int 0, en (Rat.divInt n d)] = .rt (en (Rat.divInt d n))
    have h0 : Rat.divInt n d ≠ 0 := fun z => by
      have e : (0 : Rat) = Rat.divInt 0 1 := by decide
      rw [e, Rat.divInt_eq_divInt_iff (un0 hp rfl hd) (by decide)] at z
      have := un0 hp rfl hn
      omega
    rw [inv0 (num_dvd_le (un0 hp rfl hd) h1 h2) h0, Rat.inv_divInt]
  · obtain ⟨a1, a2, _⟩ := rs_ok hp5 (n := n) hd
    rw [el_p hp5, el_p hp5, inv_p hp5 (rs_unit hp5 hd hn) a1 a2, rs_inv hp5 hd hn]
theorem el_zero : el p 0 1 = (match p with | 0 => .tup [.int 0, .int 1] | _ => .int 0) := by
  rcases p6 hp with rfl | hp5
  · rfl
  · rw [el_p hp5, rs_one hp5, Int.zero_emod]
    have := p_pn hp5
    obtain ⟨q, rfl⟩ : ∃ q, p = q + 1 := ⟨p - 1, by omega⟩
    rfl
theorem e_invz : f_invert [.int p, el p 0 1] = .ex ⟨"NoInverse", none⟩ := by
  rcases p6 hp with rfl | hp5
  · exact inv0z
  · rw [el_p hp5, rs_one hp5, Int.zero_emod]
    exact invz_p hp5
theorem e_div {n d n' d' : Int} (hd : d % p ≠ 0) (hd' : d' % p ≠ 0) (hn' : n' % p ≠ 0) (h1 : Bt 3000 n) (h2 : Bt 3000 d) (h3 : Bt 3000 n') (h4 : Bt 3000 d') : f_divide [.int p, el p n d, el p n' d'] = .rt (el p (n * d') (d * n')) := by
  have a := e_inv hp hd' hn' h3 h4
  have b := e_mul hp hd hn' h1 h2 h4 h3
  unfold f_divide m_divide
  simp [Vi.mF, Vi.finF, Vi.startE, Vi.slotsE, Vi.sSeq, Vi.sNx, Vi.sSet, Vi.setMd, Vi.sRet, Vi.sIf, Vi.sExpr, Vi.sPar, Vi.sPar3, Vi.slotOf, Vi.slotP, Vi.sAug, Vi.sAsg, Vi.sApp, Vi.sFor, Vi.vVar, Vi.vC, Vi.vOp, Vi.vOpA, Vi.v1, Vi.v2, Vi.vUn, Vi.vCB, Vi.vCall, Vi.vaNil, Vi.vaCons, Vi.vaIt, Vi.vTup, Vi.vLst, Vi.shs, Vi.vIx, Vi.itemRE, Vi.atD, Vi.itemsOf, L2.atI, L2.ixN, Vi.gI, Vi.gI0, Vi.gAdd, Vi.gMul, Vi.gNeg, Vi.gLen, Vi.gInt, Vi.gAbs, Vi.gList, Vi.gGcd, Vi.gSum, Vi.gIsi, Vi.tyD, Vi.isa, Vi.argsA, Vi.argA, Vi.isSeq, Vi.flatI, Vi.flat, Vi.flatL, Vi.fitM, Vi.ksB, Vi.truth, Vi.vTru, Vi.tAndT, Vi.tOrT, Vi.tNotT, Vi.vAndV, Vi.vOrV, Vi.vNotV, Vi.vIf, Vi.lineN, Vi.γName, Vi.γTup, Vi.γCons, Vi.γNil, Vi.tgMd, Vi.tYesV, flat_el, a, b]
theorem e_divz {n d : Int} : f_divide [.int p, el p n d, el p 0 1] = .ex ⟨"NoInverse", none⟩ := by
  have a := e_invz hp
  unfold f_divide m_divide
  simp [Vi.mF, Vi.finF, Vi.startE, Vi.slotsE, Vi.sSeq, Vi.sNx, Vi.sSet, Vi.setMd, Vi.sRet, Vi.sIf, Vi.sExpr, Vi.sPar, Vi.sPar3, Vi.slotOf, Vi.slotP, Vi.sAug, Vi.sAsg, Vi.sApp, Vi.sFor, Vi.vVar, Vi.vC, Vi.vOp, Vi.vOpA, Vi.v1, Vi.v2, Vi.vUn, Vi.vCB, Vi.vCall, Vi.vaNil, Vi.vaCons, Vi.vaIt, Vi.vTup, Vi.vLst, Vi.shs, Vi.vIx, Vi.itemRE, Vi.atD, Vi.itemsOf, L2.atI, L2.ixN, Vi.gI, Vi.gI0, Vi.gAdd, Vi.gMul, Vi.gNeg, Vi.gLen, Vi.gInt, Vi.gAbs, Vi.gList, Vi.gGcd, Vi.gSum, Vi.gIsi, Vi.tyD, Vi.isa, Vi.argsA, Vi.argA, Vi.isSeq, Vi.flatI, Vi.flat, Vi.flatL, Vi.fitM, Vi.ksB, Vi.truth, Vi.vTru, Vi.tAndT, Vi.tOrT, Vi.tNotT, Vi.vAndV, Vi.vOrV, Vi.vNotV, Vi.vIf, Vi.lineN, Vi.γName, Vi.γTup, Vi.γCons, Vi.γNil, Vi.tgMd, Vi.tYesV, flat_el, a]
theorem e_ratio {n m : Int} (hm : m % p ≠ 0) (h1 : Bt 3000 n) (h3 : Bt 3000 m) : f_ratio_of [.int p, .int n, .int m] = .rt (el p n m) := by
  have h1p : (1 : Int) % p ≠ 0 := by
    rcases p6 hp with rfl | hp5
    · simp
    · have := pos5 hp5
      rw [Int.emod_eq_of_lt] <;> omega
  have a := e_of hp (n := n)
  have b := e_of hp (n := m)
  have c := e_div hp h1p h1p hm h1 (Bt.of (k := 3000) (x := 1) 1 (by decide) (by decide) (by decide)) h3 (Bt.of (k := 3000) (x := 1) 1 (by decide) (by decide) (by decide))
  rw [Int.mul_one, Int.one_mul] at c
  unfold f_ratio_of m_ratio_of
  simp [Vi.mF, Vi.finF, Vi.startE, Vi.slotsE, Vi.sSeq, Vi.sNx, Vi.sSet, Vi.setMd, Vi.sRet, Vi.sIf, Vi.sExpr, Vi.sPar, Vi.sPar3, Vi.slotOf, Vi.slotP, Vi.sAug, Vi.sAsg, Vi.sApp, Vi.sFor, Vi.vVar, Vi.vC, Vi.vOp, Vi.vOpA, Vi.v1, Vi.v2, Vi.vUn, Vi.vCB, Vi.vCall, Vi.vaNil, Vi.vaCons, Vi.vaIt, Vi.vTup, Vi.vLst, Vi.shs, Vi.vIx, Vi.itemRE, Vi.atD, Vi.itemsOf, L2.atI, L2.ixN, Vi.gI, Vi.gI0, Vi.gAdd, Vi.gMul, Vi.gNeg, Vi.gLen, Vi.gInt, Vi.gAbs, Vi.gList, Vi.gGcd, Vi.gSum, Vi.gIsi, Vi.tyD, Vi.isa, Vi.argsA, Vi.argA, Vi.isSeq, Vi.flatI, Vi.flat, Vi.flatL, Vi.fitM, Vi.ksB, Vi.truth, Vi.vTru, Vi.tAndT, Vi.tOrT, Vi.tNotT, Vi.vAndV, Vi.vOrV, Vi.vNotV, Vi.vIf, Vi.lineN, Vi.γName, Vi.γTup, Vi.γCons, Vi.γNil, Vi.tgMd, Vi.tYesV, a, b, c]
theorem e_ratioz {n : Int} : f_ratio_of [.int p, .int n, .int 0] = .ex ⟨"NoInverse", none⟩ := by
  have a := e_of hp (n := n)
  have b := e_of hp (n := 0)
  have c := e_divz hp (n := n) (d := 1)
  unfold f_ratio_of m_ratio_of
  simp [Vi.mF, Vi.finF, Vi.startE, Vi.slotsE, Vi.sSeq, Vi.sNx, Vi.sSet, Vi.setMd, Vi.sRet, Vi.sIf, Vi.sExpr, Vi.sPar, Vi.sPar3, Vi.slotOf, Vi.slotP, Vi.sAug, Vi.sAsg, Vi.sApp, Vi.sFor, Vi.vVar, Vi.vC, Vi.vOp, Vi.vOpA, Vi.v1, Vi.v2, Vi.vUn, Vi.vCB, Vi.vCall, Vi.vaNil, Vi.vaCons, Vi.vaIt, Vi.vTup, Vi.vLst, Vi.shs, Vi.vIx, Vi.itemRE, Vi.atD, Vi.itemsOf, L2.atI, L2.ixN, Vi.gI, Vi.gI0, Vi.gAdd, Vi.gMul, Vi.gNeg, Vi.gLen, Vi.gInt, Vi.gAbs, Vi.gList, Vi.gGcd, Vi.gSum, Vi.gIsi, Vi.tyD, Vi.isa, Vi.argsA, Vi.argA, Vi.isSeq, Vi.flatI, Vi.flat, Vi.flatL, Vi.fitM, Vi.ksB, Vi.truth, Vi.vTru, Vi.tAndT, Vi.tOrT, Vi.tNotT, Vi.vAndV, Vi.vOrV, Vi.vNotV, Vi.vIf, Vi.lineN, Vi.γName, Vi.γTup, Vi.γCons, Vi.γNil, Vi.tgMd, Vi.tYesV, a, b, c]
theorem e_same {n d : Int} : f__law_same [.int p, el p n d, el p n d] = .rt (.bl true) := by
  rcases p6 hp with rfl | hp5
  · show f__law_same [.int 0, en (Rat.divInt n d), en (Rat.divInt n d)] = _
    generalize Rat.divInt n d = q
    simp only [en]
    unfold f__law_same m__law_same
    simp [Vi.mF, Vi.finF, Vi.startE, Vi.slotsE, Vi.sSeq, Vi.sNx, Vi.sSet, Vi.setMd, Vi.sRet, Vi.sIf, Vi.sExpr, Vi.sPar, Vi.sPar3, Vi.slotOf, Vi.slotP, Vi.sAug, Vi.sAsg, Vi.sApp, Vi.sFor, Vi.vVar, Vi.vC, Vi.vOp, Vi.vOpA, Vi.v1, Vi.v2, Vi.vUn, Vi.vCB, Vi.vCall, Vi.vaNil, Vi.vaCons, Vi.vaIt, Vi.vTup, Vi.vLst, Vi.shs, Vi.vIx, Vi.itemRE, Vi.atD, Vi.itemsOf, L2.atI, L2.ixN, Vi.gI, Vi.gI0, Vi.gAdd, Vi.gMul, Vi.gNeg, Vi.gLen, Vi.gInt, Vi.gAbs, Vi.gList, Vi.gGcd, Vi.gSum, Vi.gIsi, Vi.tyD, Vi.isa, Vi.argsA, Vi.argA, Vi.isSeq, Vi.flatI, Vi.flat, Vi.flatL, Vi.fitM, Vi.ksB, Vi.truth, Vi.vTru, Vi.tAndT, Vi.tOrT, Vi.tNotT, Vi.vAndV, Vi.vOrV, Vi.vNotV, Vi.vIf, Vi.lineN, Vi.γName, Vi.γTup, Vi.γCons, Vi.γNil, Vi.tgMd, Vi.tYesV, viSeq, forL, b1__law_same]
  · rw [el_p hp5]
    unfold f__law_same m__law_same
    simp [Vi.mF, Vi.finF, Vi.startE, Vi.slotsE, Vi.sSeq, Vi.sNx, Vi.sSet, Vi.setMd, Vi.sRet, Vi.sIf, Vi.sExpr, Vi.sPar, Vi.sPar3, Vi.slotOf, Vi.slotP, Vi.sAug, Vi.sAsg, Vi.sApp, Vi.sFor, Vi.vVar, Vi.vC, Vi.vOp, Vi.vOpA, Vi.v1, Vi.v2, Vi.vUn, Vi.vCB, Vi.vCall, Vi.vaNil, Vi.vaCons, Vi.vaIt, Vi.vTup, Vi.vLst, Vi.shs, Vi.vIx, Vi.itemRE, Vi.atD, Vi.itemsOf, L2.atI, L2.ixN, Vi.gI, Vi.gI0, Vi.gAdd, Vi.gMul, Vi.gNeg, Vi.gLen, Vi.gInt, Vi.gAbs, Vi.gList, Vi.gGcd, Vi.gSum, Vi.gIsi, Vi.tyD, Vi.isa, Vi.argsA, Vi.argA, Vi.isSeq, Vi.flatI, Vi.flat, Vi.flatL, Vi.fitM, Vi.ksB, Vi.truth, Vi.vTru, Vi.tAndT, Vi.tOrT, Vi.tNotT, Vi.vAndV, Vi.vOrV, Vi.vNotV, Vi.vIf, Vi.lineN, Vi.γName, Vi.γTup, Vi.γCons, Vi.γNil, Vi.tgMd, Vi.tYesV, p_pn hp5]
theorem e_ne0 {n d : Int} (hd : d % p ≠ 0) : neD (el p n d) (el p 0 1) = some (.bl (decide (n % p ≠ 0))) := by
  rcases p6 hp with rfl | hp5
  · show neD (en (Rat.divInt n d)) (en (Rat.divInt 0 1)) = _
    have e : (Rat.divInt 0 1) = (0 : Rat) := by decide
    rw [e]
    simp only [en, neD_pair]
    by_cases h : n = 0
    · subst h
      simp
    · have hq : (Rat.divInt n d).num ≠ 0 := fun z => by
        have z' := Rat.num_eq_zero.mp z
        rw [← e, Rat.divInt_eq_divInt_iff (un0 hp rfl hd) (by decide)] at z'
        omega
      simp [h, hq]
  · rw [el_p hp5, el_p hp5, rs_one hp5, Int.zero_emod, neD_int]
    by_cases h : n % p = 0
    · rw [rs_zero hp5 hd h]; simp [h]
    · have z := rs_unit hp5 hd h
      have : rs p n d ≠ 0 := fun w => z (by rw [w]; simp)
      simp [h, this]
end
end Ma

set_option maxRecDepth 100000
set_option linter.all false
set_option exponentiation.threshold 100000
namespace Ma
open PySem Vi Mi
/-! ### the pool -/
section
variable (ns : List Int) (c : Int)
def pe (vs : List Int) (tot : Int) (s4 s5 s6 s7 : Slot) : VEnv := [some (.tnt, .scr ns), some (.tnt, .int c), some (.own, .lst (vs.map .int)), some (.sh, .int tot), s4, s5, s6, s7]
def Sm (vs : List Int) : Prop := ∀ v ∈ vs, 0 ≤ v ∧ v < 1000
theorem Sm.snoc {vs : List Int} {v : Int} (h : Sm vs) (h0 : 0 ≤ v) (h1 : v < 1000) : Sm (vs ++ [v]) := fun w hw => by
  rcases List.mem_append.mp hw with hw | hw
  · exact h w hw
  · rw [List.mem_singleton.mp hw]; exact ⟨h0, h1⟩
theorem l1000 : Nat.log2 1000 < 9000 := by decide
theorem l7 : Nat.log2 7 < 9000 := by decide
theorem l11 : Nat.log2 11 < 9000 := by decide
theorem b1_ok {vs : List Int} {tot left : Int} {s4 s6 s7 : Slot} (hs : Sm vs) (hl : vs.length < 1000000) (h0 : 0 ≤ left) :
    ∃ vs' left', b1__law_pool (pe ns c vs tot s4 (some (.sh, .int left)) s6 s7) = .nx (pe ns c vs' tot s4 (some (.sh, .int left')) s6 s7) ∧ Sm vs' ∧ vs.length ≤ vs'.length ∧ vs'.length ≤ vs.length + 1 ∧ 0 ≤ left' := by
  by_cases h : 0 < left
  · refine ⟨vs ++ [left % 1000], left.fdiv 1000, ?_, hs.snoc (Int.emod_nonneg _ (by decide)) (Int.emod_lt_of_pos _ (by decide)), by simp, by simp, Int.fdiv_nonneg h0 (by decide)⟩
    have hl' : vs.length < 16777216 := by omega
    unfold b1__law_pool pe
    simp [Vi.mF, Vi.finF, Vi.startE, Vi.slotsE, Vi.sSeq, Vi.sNx, Vi.sSet, Vi.setMd, Vi.sRet, Vi.sIf, Vi.sExpr, Vi.sPar, Vi.sPar3, Vi.slotOf, Vi.slotP, Vi.sAug, Vi.sAsg, Vi.sApp, Vi.sFor, Vi.vVar, Vi.vC, Vi.vOp, Vi.vOpA, Vi.v1, Vi.v2, Vi.vUn, Vi.vCB, Vi.vCall, Vi.vaNil, Vi.vaCons, Vi.vaIt, Vi.vTup, Vi.vLst, Vi.shs, Vi.vIx, Vi.itemRE, Vi.atD, Vi.itemsOf, L2.atI, L2.ixN, Vi.gI, Vi.gI0, Vi.gAdd, Vi.gMul, Vi.gNeg, Vi.gLen, Vi.gInt, Vi.gAbs, Vi.gList, Vi.gGcd, Vi.gSum, Vi.gIsi, Vi.tyD, Vi.isa, Vi.argsA, Vi.argA, Vi.isSeq, Vi.flatI, Vi.flat, Vi.flatL, Vi.fitM, Vi.ksB, Vi.truth, Vi.vTru, Vi.tAndT, Vi.tOrT, Vi.tNotT, Vi.vAndV, Vi.vOrV, Vi.vNotV, Vi.vIf, Vi.lineN, Vi.γName, Vi.γTup, Vi.γCons, Vi.γNil, Vi.tgMd, Vi.tYesV, h, hl', l1000]
  · refine ⟨vs, left, ?_, hs, Nat.le_refl _, by omega, h0⟩
    unfold b1__law_pool pe
    simp [Vi.mF, Vi.finF, Vi.startE, Vi.slotsE, Vi.sSeq, Vi.sNx, Vi.sSet, Vi.setMd, Vi.sRet, Vi.sIf, Vi.sExpr, Vi.sPar, Vi.sPar3, Vi.slotOf, Vi.slotP, Vi.sAug, Vi.sAsg, Vi.sApp, Vi.sFor, Vi.vVar, Vi.vC, Vi.vOp, Vi.vOpA, Vi.v1, Vi.v2, Vi.vUn, Vi.vCB, Vi.vCall, Vi.vaNil, Vi.vaCons, Vi.vaIt, Vi.vTup, Vi.vLst, Vi.shs, Vi.vIx, Vi.itemRE, Vi.atD, Vi.itemsOf, L2.atI, L2.ixN, Vi.gI, Vi.gI0, Vi.gAdd, Vi.gMul, Vi.gNeg, Vi.gLen, Vi.gInt, Vi.gAbs, Vi.gList, Vi.gGcd, Vi.gSum, Vi.gIsi, Vi.tyD, Vi.isa, Vi.argsA, Vi.argA, Vi.isSeq, Vi.flatI, Vi.flat, Vi.flatL, Vi.fitM, Vi.ksB, Vi.truth, Vi.vTru, Vi.tAndT, Vi.tOrT, Vi.tNotT, Vi.vAndV, Vi.vOrV, Vi.vNotV, Vi.vIf, Vi.lineN, Vi.γName, Vi.γTup, Vi.γCons, Vi.γNil, Vi.tgMd, Vi.tYesV, h]
theorem b2_ok {vs : List Int} {tot m : Int} {s4 s5 s6 : Slot} (hs : Sm vs) (hl : vs.length < 1000000) (h0 : 0 ≤ m) (h1 : m < 2147483647) :
    ∃ vs' m', b2__law_pool (pe ns c vs tot s4 s5 s6 (some (.sh, .int m))) = .nx (pe ns c vs' tot s4 s5 s6 (some (.sh, .int m'))) ∧ Sm vs' ∧ vs'.length = vs.length + 1 ∧ 0 ≤ m' ∧ m' < 2147483647 := by
  refine ⟨vs ++ [((m * 48271 + 11) % 2147483647).fdiv 7 % 1000], (m * 48271 + 11) % 2147483647, ?_, hs.snoc (Int.emod_nonneg _ (by decide)) (Int.emod_lt_of_pos _ (by decide)), by simp, Int.emod_nonneg _ (by decide), Int.emod_lt_of_pos _ (by decide)⟩
  have hl' : vs.length < 16777216 := by omega
  have hm : m.natAbs.log2 + Nat.log2 48271 < 100000000 := Bt.mulOk (y := 48271) (Bt.of (k := 40) (x := m) 2147483647 (by omega) (by omega) (by decide)) (Bt.of (k := 40) 48271 (by decide) (by decide) (by decide)) (by decide)
  unfold b2__law_pool pe
  simp [Vi.mF, Vi.finF, Vi.startE, Vi.slotsE, Vi.sSeq, Vi.sNx, Vi.sSet, Vi.setMd, Vi.sRet, Vi.sIf, Vi.sExpr, Vi.sPar, Vi.sPar3, Vi.slotOf, Vi.slotP, Vi.sAug, Vi.sAsg, Vi.sApp, Vi.sFor, Vi.vVar, Vi.vC, Vi.vOp, Vi.vOpA, Vi.v1, Vi.v2, Vi.vUn, Vi.vCB, Vi.vCall, Vi.vaNil, Vi.vaCons, Vi.vaIt, Vi.vTup, Vi.vLst, Vi.shs, Vi.vIx, Vi.itemRE, Vi.atD, Vi.itemsOf, L2.atI, L2.ixN, Vi.gI, Vi.gI0, Vi.gAdd, Vi.gMul, Vi.gNeg, Vi.gLen, Vi.gInt, Vi.gAbs, Vi.gList, Vi.gGcd, Vi.gSum, Vi.gIsi, Vi.tyD, Vi.isa, Vi.argsA, Vi.argA, Vi.isSeq, Vi.flatI, Vi.flat, Vi.flatL, Vi.fitM, Vi.ksB, Vi.truth, Vi.vTru, Vi.tAndT, Vi.tOrT, Vi.tNotT, Vi.vAndV, Vi.vOrV, Vi.vNotV, Vi.vIf, Vi.lineN, Vi.γName, Vi.γTup, Vi.γCons, Vi.γNil, Vi.tgMd, Vi.tYesV, hl', hm, l7, l1000]
theorem b4_ok {vs : List Int} {tot : Int} {s4 s5 s6 s7 : Slot} (hs : Sm vs) (hl : vs.length < 1000000) (h0 : 0 ≤ tot) (h1 : tot < 2147483629) :
    ∃ vs' tot', b4__law_pool (pe ns c vs tot s4 s5 s6 s7) = .nx (pe ns c vs' tot' s4 s5 s6 s7) ∧ Sm vs' ∧ vs'.length = vs.length + 1 ∧ 0 ≤ tot' ∧ tot' < 2147483629 := by
  refine ⟨vs ++ [((tot * 69621 + 13) % 2147483629).fdiv 11 % 1000], (tot * 69621 + 13) % 2147483629, ?_, hs.snoc (Int.emod_nonneg _ (by decide)) (Int.emod_lt_of_pos _ (by decide)), by simp, Int.emod_nonneg _ (by decide), Int.emod_lt_of_pos _ (by decide)⟩
  have hl' : vs.length < 16777216 := by omega
  have hm : tot.natAbs.log2 + Nat.log2 69621 < 100000000 := Bt.mulOk (y := 69621) (Bt.of (k := 40) (x := tot) 2147483647 (by omega) (by omega) (by decide)) (Bt.of (k := 40) 69621 (by decide) (by decide) (by decide)) (by decide)
  unfold b4__law_pool pe
  simp [Vi.mF, Vi.finF, Vi.startE, Vi.slotsE, Vi.sSeq, Vi.sNx, Vi.sSet, Vi.setMd, Vi.sRet, Vi.sIf, Vi.sExpr, Vi.sPar, Vi.sPar3, Vi.slotOf, Vi.slotP, Vi.sAug, Vi.sAsg, Vi.sApp, Vi.sFor, Vi.vVar, Vi.vC, Vi.vOp, Vi.vOpA, Vi.v1, Vi.v2, Vi.vUn, Vi.vCB, Vi.vCall, Vi.vaNil, Vi.vaCons, Vi.vaIt, Vi.vTup, Vi.vLst, Vi.shs, Vi.vIx, Vi.itemRE, Vi.atD, Vi.itemsOf, L2.atI, L2.ixN, Vi.gI, Vi.gI0, Vi.gAdd, Vi.gMul, Vi.gNeg, Vi.gLen, Vi.gInt, Vi.gAbs, Vi.gList, Vi.gGcd, Vi.gSum, Vi.gIsi, Vi.tyD, Vi.isa, Vi.argsA, Vi.argA, Vi.isSeq, Vi.flatI, Vi.flat, Vi.flatL, Vi.fitM, Vi.ksB, Vi.truth, Vi.vTru, Vi.tAndT, Vi.tOrT, Vi.tNotT, Vi.vAndV, Vi.vOrV, Vi.vNotV, Vi.vIf, Vi.lineN, Vi.γName, Vi.γTup, Vi.γCons, Vi.γNil, Vi.tgMd, Vi.tYesV, hl', hm, l11, l1000]
end
end Ma

set_option maxRecDepth 100000
set_option linter.all false
set_option exponentiation.threshold 100000
namespace Ma
open PySem Vi Mi
section
variable (ns : List Int) (c : Int)
theorem pe_set6 {vs : List Int} {tot : Int} {s4 s5 s6 s7 : Slot} {d : D} : γName 6 .sh d (pe ns c vs tot s4 s5 s6 s7) = some (pe ns c vs tot s4 s5 (some (.sh, d)) s7) := rfl
theorem rng_c {vs : List Int} {tot : Int} {s4 s5 s6 s7 : Slot} (h0 : 0 ≤ c) (h1 : c ≤ 1000) : viRng1 (vaCons true (vVar 1) vaNil) (pe ns c vs tot s4 s5 s6 s7) = .ok .sh (rangeL 0 c.toNat) (pe ns c vs tot s4 s5 s6 s7) :=
  viRng1_ok (k := .sh) (by unfold pe; simp [Vi.mF, Vi.finF, Vi.startE, Vi.slotsE, Vi.sSeq, Vi.sNx, Vi.sSet, Vi.setMd, Vi.sRet, Vi.sIf, Vi.sExpr, Vi.sPar, Vi.sPar3, Vi.slotOf, Vi.slotP, Vi.sAug, Vi.sAsg, Vi.sApp, Vi.sFor, Vi.vVar, Vi.vC, Vi.vOp, Vi.vOpA, Vi.v1, Vi.v2, Vi.vUn, Vi.vCB, Vi.vCall, Vi.vaNil, Vi.vaCons, Vi.vaIt, Vi.vTup, Vi.vLst, Vi.shs, Vi.vIx, Vi.itemRE, Vi.atD, Vi.itemsOf, L2.atI, L2.ixN, Vi.gI, Vi.gI0, Vi.gAdd, Vi.gMul, Vi.gNeg, Vi.gLen, Vi.gInt, Vi.gAbs, Vi.gList, Vi.gGcd, Vi.gSum, Vi.gIsi, Vi.tyD, Vi.isa, Vi.argsA, Vi.argA, Vi.isSeq, Vi.flatI, Vi.flat, Vi.flatL, Vi.fitM, Vi.ksB, Vi.truth, Vi.vTru, Vi.tAndT, Vi.tOrT, Vi.tNotT, Vi.vAndV, Vi.vOrV, Vi.vNotV, Vi.vIf, Vi.lineN, Vi.γName, Vi.γTup, Vi.γCons, Vi.γNil, Vi.tgMd, Vi.tYesV]) (small_of (by omega) (by omega))
theorem rng_6 {e : VEnv} : viRng1 (vaCons true (vC (.int 6)) vaNil) e = .ok .sh (rangeL 0 6) e := viRng1_ok (k := .sh) (j := 6) (by simp [Vi.mF, Vi.finF, Vi.startE, Vi.slotsE, Vi.sSeq, Vi.sNx, Vi.sSet, Vi.setMd, Vi.sRet, Vi.sIf, Vi.sExpr, Vi.sPar, Vi.sPar3, Vi.slotOf, Vi.slotP, Vi.sAug, Vi.sAsg, Vi.sApp, Vi.sFor, Vi.vVar, Vi.vC, Vi.vOp, Vi.vOpA, Vi.v1, Vi.v2, Vi.vUn, Vi.vCB, Vi.vCall, Vi.vaNil, Vi.vaCons, Vi.vaIt, Vi.vTup, Vi.vLst, Vi.shs, Vi.vIx, Vi.itemRE, Vi.atD, Vi.itemsOf, L2.atI, L2.ixN, Vi.gI, Vi.gI0, Vi.gAdd, Vi.gMul, Vi.gNeg, Vi.gLen, Vi.gInt, Vi.gAbs, Vi.gList, Vi.gGcd, Vi.gSum, Vi.gIsi, Vi.tyD, Vi.isa, Vi.argsA, Vi.argA, Vi.isSeq, Vi.flatI, Vi.flat, Vi.flatL, Vi.fitM, Vi.ksB, Vi.truth, Vi.vTru, Vi.tAndT, Vi.tOrT, Vi.tNotT, Vi.vAndV, Vi.vOrV, Vi.vNotV, Vi.vIf, Vi.lineN, Vi.γName, Vi.γTup, Vi.γCons, Vi.γNil, Vi.tgMd, Vi.tYesV]) (small_of (by decide) (by decide))
theorem b3_ok {vs : List Int} {tot cell : Int} {s5 s6 s7 : Slot} (hc0 : 0 ≤ c) (hc1 : c ≤ 1000) (hs : Sm vs) (hl : vs.length < 900000) (h0 : 0 ≤ tot) (h1 : tot < 2147483629) (hcell : Bt 2000000 cell) :
    ∃ vs' tot' s5' s6' s7', b3__law_pool (pe ns c vs tot (some (.sh, .int cell)) s5 s6 s7) = .nx (pe ns c vs' tot' (some (.sh, .int cell)) s5' s6' s7') ∧ Sm vs' ∧ vs'.length ≤ vs.length + 1006 ∧ 0 ≤ tot' ∧ tot' < 2147483629 := by
  obtain ⟨L, hL0, hLB, hLe⟩ : ∃ L : Int, 0 ≤ L ∧ Bt 2000010 L ∧ sSet 5 (vIf (vTru (vOp gGe (vVar 4) (vC (.int 0)))) (vOpA gMul (vC (.int 2)) (vCB gInt (vaCons true (vVar 4) vaNil))) (vOp gSub (vOpA gMul (vUn gNeg (vC (.int 2))) (vCB gInt (vaCons true (vVar 4) vaNil))) (vC (.int 1)))) (pe ns c vs tot (some (.sh, .int cell)) s5 s6 s7) = .nx (pe ns c vs tot (some (.sh, .int cell)) (some (.sh, .int L)) s6 s7) := by
    have hm : Nat.log2 2 + cell.natAbs.log2 < 100000000 := Bt.mulOk (x := 2) (Bt.of (k := 2) 2 (by decide) (by decide) (by decide)) hcell (by decide)
    by_cases h : 0 ≤ cell
    · refine ⟨2 * cell, by omega, ((Bt.of (k := 2) (x := 2) 2 (by decide) (by decide) (by decide)).mul hcell).mono (by decide), ?_⟩
      unfold pe
      simp [Vi.mF, Vi.finF, Vi.startE, Vi.slotsE, Vi.sSeq, Vi.sNx, Vi.sSet, Vi.setMd, Vi.sRet, Vi.sIf, Vi.sExpr, Vi.sPar, Vi.sPar3, Vi.slotOf, Vi.slotP, Vi.sAug, Vi.sAsg, Vi.sApp, Vi.sFor, Vi.vVar, Vi.vC, Vi.vOp, Vi.vOpA, Vi.v1, Vi.v2, Vi.vUn, Vi.vCB, Vi.vCall, Vi.vaNil, Vi.vaCons, Vi.vaIt, Vi.vTup, Vi.vLst, Vi.shs, Vi.vIx, Vi.itemRE, Vi.atD, Vi.itemsOf, L2.atI, L2.ixN, Vi.gI, Vi.gI0, Vi.gAdd, Vi.gMul, Vi.gNeg, Vi.gLen, Vi.gInt, Vi.gAbs, Vi.gList, Vi.gGcd, Vi.gSum, Vi.gIsi, Vi.tyD, Vi.isa, Vi.argsA, Vi.argA, Vi.isSeq, Vi.flatI, Vi.flat, Vi.flatL, Vi.fitM, Vi.ksB, Vi.truth, Vi.vTru, Vi.tAndT, Vi.tOrT, Vi.tNotT, Vi.vAndV, Vi.vOrV, Vi.vNotV, Vi.vIf, Vi.lineN, Vi.γName, Vi.γTup, Vi.γCons, Vi.γNil, Vi.tgMd, Vi.tYesV, h, hm]
    · refine ⟨-2 * cell - 1, by omega, (((Bt.of (k := 2) (x := -2) 2 (by decide) (by decide) (by decide)).mul hcell).sub ((Bt.of (k := 2) (x := 1) 2 (by decide) (by decide) (by decide)).mono (l := 2 + 2000000) (by decide))).mono (by decide), ?_⟩
      unfold pe
      simp [Vi.mF, Vi.finF, Vi.startE, Vi.slotsE, Vi.sSeq, Vi.sNx, Vi.sSet, Vi.setMd, Vi.sRet, Vi.sIf, Vi.sExpr, Vi.sPar, Vi.sPar3, Vi.slotOf, Vi.slotP, Vi.sAug, Vi.sAsg, Vi.sApp, Vi.sFor, Vi.vVar, Vi.vC, Vi.vOp, Vi.vOpA, Vi.v1, Vi.v2, Vi.vUn, Vi.vCB, Vi.vCall, Vi.vaNil, Vi.vaCons, Vi.vaIt, Vi.vTup, Vi.vLst, Vi.shs, Vi.vIx, Vi.itemRE, Vi.atD, Vi.itemsOf, L2.atI, L2.ixN, Vi.gI, Vi.gI0, Vi.gAdd, Vi.gMul, Vi.gNeg, Vi.gLen, Vi.gInt, Vi.gAbs, Vi.gList, Vi.gGcd, Vi.gSum, Vi.gIsi, Vi.tyD, Vi.isa, Vi.argsA, Vi.argA, Vi.isSeq, Vi.flatI, Vi.flat, Vi.flatL, Vi.fitM, Vi.ksB, Vi.truth, Vi.vTru, Vi.tAndT, Vi.tOrT, Vi.tNotT, Vi.vAndV, Vi.vOrV, Vi.vNotV, Vi.vIf, Vi.lineN, Vi.γName, Vi.γTup, Vi.γCons, Vi.γNil, Vi.tgMd, Vi.tYesV, h, hm]
  have hm31 : tot.natAbs.log2 + Nat.log2 31 < 100000000 := Bt.mulOk (y := 31) (Bt.of (k := 40) (x := tot) 2147483647 (by omega) (by omega) (by decide)) (Bt.of (k := 40) 31 (by decide) (by decide) (by decide)) (by decide)
  have e2 : sSet 3 (vOp gMod (vCB gInt (vaCons true (vOpA gAdd (vOpA gMul (vVar 3) (vC (.int 31))) (vVar 5)) vaNil)) (vC (.int 2147483629))) (pe ns c vs tot (some (.sh, .int cell)) (some (.sh, .int L)) s6 s7) = .nx (pe ns c vs ((tot * 31 + L) % 2147483629) (some (.sh, .int cell)) (some (.sh, .int L)) s6 s7) := by
    unfold pe
    simp [Vi.mF, Vi.finF, Vi.startE, Vi.slotsE, Vi.sSeq, Vi.sNx, Vi.sSet, Vi.setMd, Vi.sRet, Vi.sIf, Vi.sExpr, Vi.sPar, Vi.sPar3, Vi.slotOf, Vi.slotP, Vi.sAug, Vi.sAsg, Vi.sApp, Vi.sFor, Vi.vVar, Vi.vC, Vi.vOp, Vi.vOpA, Vi.v1, Vi.v2, Vi.vUn, Vi.vCB, Vi.vCall, Vi.vaNil, Vi.vaCons, Vi.vaIt, Vi.vTup, Vi.vLst, Vi.shs, Vi.vIx, Vi.itemRE, Vi.atD, Vi.itemsOf, L2.atI, L2.ixN, Vi.gI, Vi.gI0, Vi.gAdd, Vi.gMul, Vi.gNeg, Vi.gLen, Vi.gInt, Vi.gAbs, Vi.gList, Vi.gGcd, Vi.gSum, Vi.gIsi, Vi.tyD, Vi.isa, Vi.argsA, Vi.argA, Vi.isSeq, Vi.flatI, Vi.flat, Vi.flatL, Vi.fitM, Vi.ksB, Vi.truth, Vi.vTru, Vi.tAndT, Vi.tOrT, Vi.tNotT, Vi.vAndV, Vi.vOrV, Vi.vNotV, Vi.vIf, Vi.lineN, Vi.γName, Vi.γTup, Vi.γCons, Vi.γNil, Vi.tgMd, Vi.tYesV, hm31]
  generalize ht : (tot * 31 + L) % 2147483629 = t at e2
  have t0 : 0 ≤ t := by rw [← ht]; exact Int.emod_nonneg _ (by decide)
  have t1 : t < 2147483629 := by rw [← ht]; exact Int.emod_lt_of_pos _ (by decide)
  have ge : vTru (vOp gGe (vVar 5) (vOp gPow (vC (.int 10)) (vC (.int 18)))) (pe ns c vs t (some (.sh, .int cell)) (some (.sh, .int L)) s6 s7) = .ok (decide (10 ^ 18 ≤ L)) (pe ns c vs t (some (.sh, .int cell)) (some (.sh, .int L)) s6 s7) := by
    have hp : gPow (.int 10) (.int 18) = some (.int (10 ^ 18)) := rfl
    unfold pe
    simp only [vOp, v2, vVar, vC, hp]
    simp [Vi.mF, Vi.finF, Vi.startE, Vi.slotsE, Vi.sSeq, Vi.sNx, Vi.sSet, Vi.setMd, Vi.sRet, Vi.sIf, Vi.sExpr, Vi.sPar, Vi.sPar3, Vi.slotOf, Vi.slotP, Vi.sAug, Vi.sAsg, Vi.sApp, Vi.sFor, Vi.vVar, Vi.vC, Vi.vOp, Vi.vOpA, Vi.v1, Vi.v2, Vi.vUn, Vi.vCB, Vi.vCall, Vi.vaNil, Vi.vaCons, Vi.vaIt, Vi.vTup, Vi.vLst, Vi.shs, Vi.vIx, Vi.itemRE, Vi.atD, Vi.itemsOf, L2.atI, L2.ixN, Vi.gI, Vi.gI0, Vi.gAdd, Vi.gMul, Vi.gNeg, Vi.gLen, Vi.gInt, Vi.gAbs, Vi.gList, Vi.gGcd, Vi.gSum, Vi.gIsi, Vi.tyD, Vi.isa, Vi.argsA, Vi.argA, Vi.isSeq, Vi.flatI, Vi.flat, Vi.flatL, Vi.fitM, Vi.ksB, Vi.truth, Vi.vTru, Vi.tAndT, Vi.tOrT, Vi.tNotT, Vi.vAndV, Vi.vOrV, Vi.vNotV, Vi.vIf, Vi.lineN, Vi.γName, Vi.γTup, Vi.γCons, Vi.γNil, Vi.tgMd, Vi.tYesV]
  unfold b3__law_pool
  rw [sSeq_ap, hLe, SRes.bind_nx, sSeq_ap, e2, SRes.bind_nx]
  unfold sIf
  rw [ge, RT.toS_ok]
  by_cases hb : (10 : Int) ^ 18 ≤ L
  · rw [decide_eq_true hb]
    dsimp only
    rw [sFor_ok (rng_c ns c hc0 hc1)]
    obtain ⟨e', h2, vs', left', s6', h3, h4, h5, h6, h7⟩ := forL_inv (γ := γName 6) (f := b1__law_pool) (k := .sh) (fun i e => ∃ vs' left' s6', e = pe ns c vs' t (some (.sh, .int cell)) (some (.sh, .int left')) s6' s7 ∧ Sm vs' ∧ vs.length ≤ vs'.length ∧ vs'.length ≤ vs.length + i ∧ 0 ≤ left') (rangeL 0 c.toNat) 0 _ ⟨vs, L, s6, rfl, hs, Nat.le_refl _, by omega, hL0⟩ (fun j d e hj ⟨vs', left', s6', h3, h4, h5, h6, h7⟩ => by
      obtain ⟨hj1, rfl⟩ := range_get hj
      subst h3
      refine ⟨_, pe_set6 ns c, ?_⟩
      obtain ⟨vs2, l2, g1, g2, g3, g4, g5⟩ := b1_ok ns c (tot := t) (s4 := some (.sh, .int cell)) (s6 := some (.sh, .int (0 + (j : Int)))) (s7 := s7) h4 (by omega) h7
      exact ⟨_, g1, vs2, l2, _, rfl, g2, by omega, by omega, g5⟩)
    subst h3
    refine ⟨vs', t, _, _, _, h2, h4, ?_, t0, t1⟩
    simp [rangeL] at h6
    omega
  · rw [decide_eq_false hb]
    dsimp only
    have hm4 : (L + 5).natAbs.log2 + Nat.log2 40692 < 100000000 := Bt.mulOk (y := 40692) (Bt.add hLB (Bt.of (k := 2000010) (x := 5) 7 (by decide) (by decide) (Nat.lt_of_lt_of_le (m := 2 ^ 4) (by decide) (Nat.pow_le_pow_right (by decide) (by decide))))) (Bt.of (k := 40) 40692 (by decide) (by decide) (by decide)) (by decide)
    have e7 : sSet 7 (vOp gMod (vCB gInt (vaCons true (vOpA gAdd (vOpA gMul (vOpA gAdd (vVar 5) (vC (.int 5))) (vC (.int 40692))) (vC (.int 977))) vaNil)) (vC (.int 2147483399))) (pe ns c vs t (some (.sh, .int cell)) (some (.sh, .int L)) s6 s7) = .nx (pe ns c vs t (some (.sh, .int cell)) (some (.sh, .int L)) s6 (some (.sh, .int (((L + 5) * 40692 + 977) % 2147483399)))) := by
      unfold pe
      simp [Vi.mF, Vi.finF, Vi.startE, Vi.slotsE, Vi.sSeq, Vi.sNx, Vi.sSet, Vi.setMd, Vi.sRet, Vi.sIf, Vi.sExpr, Vi.sPar, Vi.sPar3, Vi.slotOf, Vi.slotP, Vi.sAug, Vi.sAsg, Vi.sApp, Vi.sFor, Vi.vVar, Vi.vC, Vi.vOp, Vi.vOpA, Vi.v1, Vi.v2, Vi.vUn, Vi.vCB, Vi.vCall, Vi.vaNil, Vi.vaCons, Vi.vaIt, Vi.vTup, Vi.vLst, Vi.shs, Vi.vIx, Vi.itemRE, Vi.atD, Vi.itemsOf, L2.atI, L2.ixN, Vi.gI, Vi.gI0, Vi.gAdd, Vi.gMul, Vi.gNeg, Vi.gLen, Vi.gInt, Vi.gAbs, Vi.gList, Vi.gGcd, Vi.gSum, Vi.gIsi, Vi.tyD, Vi.isa, Vi.argsA, Vi.argA, Vi.isSeq, Vi.flatI, Vi.flat, Vi.flatL, Vi.fitM, Vi.ksB, Vi.truth, Vi.vTru, Vi.tAndT, Vi.tOrT, Vi.tNotT, Vi.vAndV, Vi.vOrV, Vi.vNotV, Vi.vIf, Vi.lineN, Vi.γName, Vi.γTup, Vi.γCons, Vi.γNil, Vi.tgMd, Vi.tYesV, hm4]
    rw [sSeq_ap, e7, SRes.bind_nx, sFor_ok rng_6]
    obtain ⟨e', h2, vs', m', s6', h3, h4, h5, h6, h7⟩ := forL_inv (γ := γName 6) (f := b2__law_pool) (k := .sh) (fun i e => ∃ vs' m' s6', e = pe ns c vs' t (some (.sh, .int cell)) (some (.sh, .int L)) s6' (some (.sh, .int m')) ∧ Sm vs' ∧ vs'.length = vs.length + i ∧ 0 ≤ m' ∧ m' < 2147483647) (rangeL 0 6) 0 _ ⟨vs, ((L + 5) * 40692 + 977) % 2147483399, s6, rfl, hs, rfl, Int.emod_nonneg _ (by decide), Int.lt_trans (Int.emod_lt_of_pos _ (by decide)) (by decide)⟩ (fun j d e hj ⟨vs', m', s6', h3, h4, h5, h6, h7⟩ => by
      obtain ⟨hj1, rfl⟩ := range_get hj
      subst h3
      refine ⟨_, pe_set6 ns c, ?_⟩
      obtain ⟨vs2, m2, g1, g2, g3, g4, g5⟩ := b2_ok ns c (tot := t) (s4 := some (.sh, .int cell)) (s5 := some (.sh, .int L)) (s6 := some (.sh, .int (0 + (j : Int)))) h4 (by omega) h6 h7
      exact ⟨_, g1, vs2, m2, _, rfl, g2, by omega, g4, g5⟩)
    subst h3
    refine ⟨vs', t, _, _, _, h2, h4, ?_, t0, t1⟩
    simp [rangeL] at h5
    omega
theorem pool_ok (hc0 : 0 ≤ c) (hc1 : c ≤ 1000) (hl : ns.length ≤ 63) (hb : ∀ z ∈ ns, Bt 2000000 z) : ∃ vs : List Int, vs.length = c.toNat ∧ Sm vs ∧ f__law_pool [.scr ns, .int c] = .fr (vs.map .int) := by
  have e0 : startE 8 [true, true] [.scr ns, .int c] = [some (.tnt, .scr ns), some (.tnt, .int c), none, none, none, none, none, none] := rfl
  have e1 : sSet 2 (vLst vaNil) [some (.tnt, .scr ns), some (.tnt, .int c), none, none, none, none, none, none] = .nx [some (.tnt, .scr ns), some (.tnt, .int c), some (.own, .lst []), none, none, none, none, none] := by simp [Vi.mF, Vi.finF, Vi.startE, Vi.slotsE, Vi.sSeq, Vi.sNx, Vi.sSet, Vi.setMd, Vi.sRet, Vi.sIf, Vi.sExpr, Vi.sPar, Vi.sPar3, Vi.slotOf, Vi.slotP, Vi.sAug, Vi.sAsg, Vi.sApp, Vi.sFor, Vi.vVar, Vi.vC, Vi.vOp, Vi.vOpA, Vi.v1, Vi.v2, Vi.vUn, Vi.vCB, Vi.vCall, Vi.vaNil, Vi.vaCons, Vi.vaIt, Vi.vTup, Vi.vLst, Vi.shs, Vi.vIx, Vi.itemRE, Vi.atD, Vi.itemsOf, L2.atI, L2.ixN, Vi.gI, Vi.gI0, Vi.gAdd, Vi.gMul, Vi.gNeg, Vi.gLen, Vi.gInt, Vi.gAbs, Vi.gList, Vi.gGcd, Vi.gSum, Vi.gIsi, Vi.tyD, Vi.isa, Vi.argsA, Vi.argA, Vi.isSeq, Vi.flatI, Vi.flat, Vi.flatL, Vi.fitM, Vi.ksB, Vi.truth, Vi.vTru, Vi.tAndT, Vi.tOrT, Vi.tNotT, Vi.vAndV, Vi.vOrV, Vi.vNotV, Vi.vIf, Vi.lineN, Vi.γName, Vi.γTup, Vi.γCons, Vi.γNil, Vi.tgMd, Vi.tYesV]
  have e2 : sSet 3 (vC (.int 7)) [some (.tnt, .scr ns), some (.tnt, .int c), some (.own, .lst []), none, none, none, none, none] = .nx (pe ns c [] 7 none none none none) := by unfold pe; simp [Vi.mF, Vi.finF, Vi.startE, Vi.slotsE, Vi.sSeq, Vi.sNx, Vi.sSet, Vi.setMd, Vi.sRet, Vi.sIf, Vi.sExpr, Vi.sPar, Vi.sPar3, Vi.slotOf, Vi.slotP, Vi.sAug, Vi.sAsg, Vi.sApp, Vi.sFor, Vi.vVar, Vi.vC, Vi.vOp, Vi.vOpA, Vi.v1, Vi.v2, Vi.vUn, Vi.vCB, Vi.vCall, Vi.vaNil, Vi.vaCons, Vi.vaIt, Vi.vTup, Vi.vLst, Vi.shs, Vi.vIx, Vi.itemRE, Vi.atD, Vi.itemsOf, L2.atI, L2.ixN, Vi.gI, Vi.gI0, Vi.gAdd, Vi.gMul, Vi.gNeg, Vi.gLen, Vi.gInt, Vi.gAbs, Vi.gList, Vi.gGcd, Vi.gSum, Vi.gIsi, Vi.tyD, Vi.isa, Vi.argsA, Vi.argA, Vi.isSeq, Vi.flatI, Vi.flat, Vi.flatL, Vi.fitM, Vi.ksB, Vi.truth, Vi.vTru, Vi.tAndT, Vi.tOrT, Vi.tNotT, Vi.vAndV, Vi.vOrV, Vi.vNotV, Vi.vIf, Vi.lineN, Vi.γName, Vi.γTup, Vi.γCons, Vi.γNil, Vi.tgMd, Vi.tYesV]
  have e3 : viSeq (vVar 0) (pe ns c [] 7 none none none none) = .ok .tnt (ns.map .int) (pe ns c [] 7 none none none none) := by
    unfold viSeq pe
    simp [Vi.mF, Vi.finF, Vi.startE, Vi.slotsE, Vi.sSeq, Vi.sNx, Vi.sSet, Vi.setMd, Vi.sRet, Vi.sIf, Vi.sExpr, Vi.sPar, Vi.sPar3, Vi.slotOf, Vi.slotP, Vi.sAug, Vi.sAsg, Vi.sApp, Vi.sFor, Vi.vVar, Vi.vC, Vi.vOp, Vi.vOpA, Vi.v1, Vi.v2, Vi.vUn, Vi.vCB, Vi.vCall, Vi.vaNil, Vi.vaCons, Vi.vaIt, Vi.vTup, Vi.vLst, Vi.shs, Vi.vIx, Vi.itemRE, Vi.atD, Vi.itemsOf, L2.atI, L2.ixN, Vi.gI, Vi.gI0, Vi.gAdd, Vi.gMul, Vi.gNeg, Vi.gLen, Vi.gInt, Vi.gAbs, Vi.gList, Vi.gGcd, Vi.gSum, Vi.gIsi, Vi.tyD, Vi.isa, Vi.argsA, Vi.argA, Vi.isSeq, Vi.flatI, Vi.flat, Vi.flatL, Vi.fitM, Vi.ksB, Vi.truth, Vi.vTru, Vi.tAndT, Vi.tOrT, Vi.tNotT, Vi.vAndV, Vi.vOrV, Vi.vNotV, Vi.vIf, Vi.lineN, Vi.γName, Vi.γTup, Vi.γCons, Vi.γNil, Vi.tgMd, Vi.tYesV]
  obtain ⟨ea, g1, vs, tot, s4, s5, s6, s7, g2, g3, g4, g5, g6⟩ := forL_inv (γ := γName 4) (f := b3__law_pool) (k := .tnt) (fun i e => ∃ vs tot s4 s5 s6 s7, e = pe ns c vs tot s4 s5 s6 s7 ∧ Sm vs ∧ vs.length ≤ i * 1006 ∧ 0 ≤ tot ∧ tot < 2147483629) (ns.map .int) 0 _ ⟨[], 7, none, none, none, none, rfl, (fun _ h => nomatch h), by simp, by decide, by decide⟩ (fun j d e hj ⟨vs, tot, s4, s5, s6, s7, h3, h4, h5, h6, h7⟩ => by
    rw [List.getElem?_map] at hj
    simp only [Option.map_eq_some_iff] at hj
    obtain ⟨z, hz, rfl⟩ := hj
    have hzm := List.mem_of_getElem? hz
    have hjl := (List.getElem?_eq_some_iff.mp hz).1
    subst h3
    refine ⟨pe ns c vs tot (some (.sh, .int z)) s5 s6 s7, rfl, ?_⟩
    obtain ⟨vs', tot', s5', s6', s7', k1, k2, k3, k4, k5⟩ := b3_ok ns c (s5 := s5) (s6 := s6) (s7 := s7) hc0 hc1 h4 (by omega) h6 h7 (hb z hzm)
    exact ⟨_, k1, vs', tot', _, s5', s6', s7', rfl, k2, by omega, k4, k5⟩)
  subst g2
  have hlen : vs.length ≤ 63 * 1006 := by simp at g4; omega
  obtain ⟨eb, k1, vs2, tot2, t4, t5, t6, t7, k2, k3, k4, k5, k6⟩ := forL_inv (γ := γName 6) (f := b4__law_pool) (k := .sh) (fun i e => ∃ vs' tot s4 s5 s6 s7, e = pe ns c vs' tot s4 s5 s6 s7 ∧ Sm vs' ∧ vs'.length = vs.length + i ∧ 0 ≤ tot ∧ tot < 2147483629) (rangeL 0 c.toNat) 0 _ ⟨vs, tot, s4, s5, s6, s7, rfl, g3, rfl, g5, g6⟩ (fun j d e hj ⟨vs', tot, s4, s5, s6, s7, h3, h4, h5, h6, h7⟩ => by
    obtain ⟨hj1, rfl⟩ := range_get hj
    subst h3
    refine ⟨_, pe_set6 ns c, ?_⟩
    obtain ⟨vs'', tot', m1, m2, m3, m4, m5⟩ := b4_ok ns c (s4 := s4) (s5 := s5) (s6 := some (.sh, .int (0 + (j : Int)))) (s7 := s7) h4 (by omega) h6 h7
    exact ⟨_, m1, vs'', tot', _, _, _, _, rfl, m2, by omega, m4, m5⟩)
  subst k2
  have hlen2 : c.toNat ≤ vs2.length := by simp [rangeL] at k4; omega
  refine ⟨vs2.take c.toNat, by rw [List.length_take]; omega, fun v hv => k3 v (List.mem_of_mem_take hv), ?_⟩
  have e4 : sRet (vSl (vVar 2) voNone (voSome (vVar 1))) (pe ns c vs2 tot2 t4 t5 t6 t7) = .rt .fr (.lst ((vs2.take c.toNat).map .int)) (pe ns c vs2 tot2 t4 t5 t6 t7) := by
    have hcut : cutD (vs2.map D.int) none (some c) = (vs2.take c.toNat).map D.int := by
      have e : c = ((c.toNat : Nat) : Int) := by omega
      unfold cutD
      rw [e, HT.sIx_none, HT.sIx_nat, List.drop_zero, List.length_map, Nat.sub_zero, Nat.min_eq_left hlen2, List.map_take, Int.toNat_natCast]
    unfold pe
    simp [Vi.mF, Vi.finF, Vi.startE, Vi.slotsE, Vi.sSeq, Vi.sNx, Vi.sSet, Vi.setMd, Vi.sRet, Vi.sIf, Vi.sExpr, Vi.sPar, Vi.sPar3, Vi.slotOf, Vi.slotP, Vi.sAug, Vi.sAsg, Vi.sApp, Vi.sFor, Vi.vVar, Vi.vC, Vi.vOp, Vi.vOpA, Vi.v1, Vi.v2, Vi.vUn, Vi.vCB, Vi.vCall, Vi.vaNil, Vi.vaCons, Vi.vaIt, Vi.vTup, Vi.vLst, Vi.shs, Vi.vIx, Vi.itemRE, Vi.atD, Vi.itemsOf, L2.atI, L2.ixN, Vi.gI, Vi.gI0, Vi.gAdd, Vi.gMul, Vi.gNeg, Vi.gLen, Vi.gInt, Vi.gAbs, Vi.gList, Vi.gGcd, Vi.gSum, Vi.gIsi, Vi.tyD, Vi.isa, Vi.argsA, Vi.argA, Vi.isSeq, Vi.flatI, Vi.flat, Vi.flatL, Vi.fitM, Vi.ksB, Vi.truth, Vi.vTru, Vi.tAndT, Vi.tOrT, Vi.tNotT, Vi.vAndV, Vi.vOrV, Vi.vNotV, Vi.vIf, Vi.lineN, Vi.γName, Vi.γTup, Vi.γCons, Vi.γNil, Vi.tgMd, Vi.tYesV, vSl, voNone, voSome, gSl, hcut]
  unfold f__law_pool m__law_pool
  rw [mF, e0, sSeq_ap, e1, SRes.bind_nx, sSeq_ap, e2, SRes.bind_nx, sSeq_ap, sFor_ok e3, g1, SRes.bind_nx, sSeq_ap, sFor_ok (rng_c ns c hc0 hc1), k1, SRes.bind_nx, e4]
  rfl
end
end Ma

set_option maxRecDepth 100000
set_option linter.all false
set_option exponentiation.threshold 100000
namespace Ma
open PySem Vi Mi
theorem Bt_one {k : Nat} : Bt (k + 1) 1 := by
  unfold Bt
  have : 1 ≤ 2 ^ k := Nat.one_le_two_pow
  rw [Nat.pow_succ]
  show 1 < _
  omega
theorem Bt_pow {k : Nat} {x : Int} (h : Bt k x) : ∀ i : Nat, Bt (k * i + 1) (x ^ i)
  | 0 => by simpa using Bt_one (k := 0)
  | i + 1 => by
    rw [Int.pow_succ]
    exact ((Bt_pow h i).mul h).mono (by rw [Nat.mul_succ]; omega)
section
variable {p : Nat} (hp : p ∈ P6)
include hp
theorem un_one : (1 : Int) % p ≠ 0 := by
  rcases p6 hp with rfl | hp5
  · simp
  · have := pos5 hp5
    rw [Int.emod_eq_of_lt] <;> omega
theorem un_pow {d : Int} (hd : d % p ≠ 0) : ∀ i : Nat, d ^ i % p ≠ 0
  | 0 => by rw [Int.pow_zero]; exact un_one hp
  | i + 1 => by rw [Int.pow_succ]; exact un_mul hp (un_pow hd i) hd
theorem e_pow {n d : Int} (hd : d % p ≠ 0) (h1 : Bt 20 n) (h2 : Bt 20 d) (k : Nat) (hk : k ≤ 41) : f_raise_to [.int p, el p n d, .int k] = .rt (el p (n ^ k) (d ^ k)) := by
  have e1 : sSet 3 (vCall [true, true] f_number_of (vaCons true (vVar 0) (vaCons true (vC (.int 1)) vaNil))) [some (.tnt, .int p), some (.tnt, el p n d), some (.tnt, .int k), none, none] = .nx [some (.tnt, .int p), some (.tnt, el p n d), some (.tnt, .int k), some (.sh, el p 1 1), none] := by
    simp [Vi.mF, Vi.finF, Vi.startE, Vi.slotsE, Vi.sSeq, Vi.sNx, Vi.sSet, Vi.setMd, Vi.sRet, Vi.sIf, Vi.sExpr, Vi.sPar, Vi.sPar3, Vi.slotOf, Vi.slotP, Vi.sAug, Vi.sAsg, Vi.sApp, Vi.sFor, Vi.vVar, Vi.vC, Vi.vOp, Vi.vOpA, Vi.v1, Vi.v2, Vi.vUn, Vi.vCB, Vi.vCall, Vi.vaNil, Vi.vaCons, Vi.vaIt, Vi.vTup, Vi.vLst, Vi.shs, Vi.vIx, Vi.itemRE, Vi.atD, Vi.itemsOf, L2.atI, L2.ixN, Vi.gI, Vi.gI0, Vi.gAdd, Vi.gMul, Vi.gNeg, Vi.gLen, Vi.gInt, Vi.gAbs, Vi.gList, Vi.gGcd, Vi.gSum, Vi.gIsi, Vi.tyD, Vi.isa, Vi.argsA, Vi.argA, Vi.isSeq, Vi.flatI, Vi.flat, Vi.flatL, Vi.fitM, Vi.ksB, Vi.truth, Vi.vTru, Vi.tAndT, Vi.tOrT, Vi.tNotT, Vi.vAndV, Vi.vOrV, Vi.vNotV, Vi.vIf, Vi.lineN, Vi.γName, Vi.γTup, Vi.γCons, Vi.γNil, Vi.tgMd, Vi.tYesV, e_of hp]
  have e2 : viRng1 (vaCons true (vVar 2) vaNil) [some (.tnt, .int p), some (.tnt, el p n d), some (.tnt, .int k), some (.sh, el p 1 1), none] = .ok .sh (rangeL 0 (k : Int).toNat) [some (.tnt, .int p), some (.tnt, el p n d), some (.tnt, .int k), some (.sh, el p 1 1), none] :=
    viRng1_ok (k := .sh) (by simp [Vi.mF, Vi.finF, Vi.startE, Vi.slotsE, Vi.sSeq, Vi.sNx, Vi.sSet, Vi.setMd, Vi.sRet, Vi.sIf, Vi.sExpr, Vi.sPar, Vi.sPar3, Vi.slotOf, Vi.slotP, Vi.sAug, Vi.sAsg, Vi.sApp, Vi.sFor, Vi.vVar, Vi.vC, Vi.vOp, Vi.vOpA, Vi.v1, Vi.v2, Vi.vUn, Vi.vCB, Vi.vCall, Vi.vaNil, Vi.vaCons, Vi.vaIt, Vi.vTup, Vi.vLst, Vi.shs, Vi.vIx, Vi.itemRE, Vi.atD, Vi.itemsOf, L2.atI, L2.ixN, Vi.gI, Vi.gI0, Vi.gAdd, Vi.gMul, Vi.gNeg, Vi.gLen, Vi.gInt, Vi.gAbs, Vi.gList, Vi.gGcd, Vi.gSum, Vi.gIsi, Vi.tyD, Vi.isa, Vi.argsA, Vi.argA, Vi.isSeq, Vi.flatI, Vi.flat, Vi.flatL, Vi.fitM, Vi.ksB, Vi.truth, Vi.vTru, Vi.tAndT, Vi.tOrT, Vi.tNotT, Vi.vAndV, Vi.vOrV, Vi.vNotV, Vi.vIf, Vi.lineN, Vi.γName, Vi.γTup, Vi.γCons, Vi.γNil, Vi.tgMd, Vi.tYesV]) (small_of (by omega) (by omega))
  obtain ⟨e', g1, s4, g2⟩ := forL_inv (γ := γName 4) (f := b1_raise_to) (k := .sh) (fun i e => ∃ s4, e = [some (.tnt, .int p), some (.tnt, el p n d), some (.tnt, .int k), some (.sh, el p (n ^ i) (d ^ i)), s4]) (rangeL 0 (k : Int).toNat) 0 [some (.tnt, .int p), some (.tnt, el p n d), some (.tnt, .int k), some (.sh, el p 1 1), none] ⟨none, by simp⟩ (fun j x e hj ⟨s4, h⟩ => by
    obtain ⟨hj1, rfl⟩ := range_get hj
    subst h
    refine ⟨[some (.tnt, .int p), some (.tnt, el p n d), some (.tnt, .int k), some (.sh, el p (n ^ (0 + j)) (d ^ (0 + j))), some (.sh, .int (0 + j))], rfl, ?_⟩
    have hm := e_mul hp (un_pow hp hd (0 + j)) hd ((Bt_pow h1 (0 + j)).mono (l := 3000) (by omega)) ((Bt_pow h2 (0 + j)).mono (l := 3000) (by omega)) (h1.mono (l := 3000) (by decide)) (h2.mono (l := 3000) (by decide))
    rw [← Int.pow_succ, ← Int.pow_succ] at hm
    generalize el p (n ^ (0 + j)) (d ^ (0 + j)) = z at *
    refine ⟨[some (.tnt, .int p), some (.tnt, el p n d), some (.tnt, .int k), some (.sh, el p (n ^ (0 + j + 1)) (d ^ (0 + j + 1))), some (.sh, .int (0 + j))], ?_, _, rfl⟩
    generalize el p (n ^ (0 + j + 1)) (d ^ (0 + j + 1)) = z2 at *
    unfold b1_raise_to
    simp [Vi.mF, Vi.finF, Vi.startE, Vi.slotsE, Vi.sSeq, Vi.sNx, Vi.sSet, Vi.setMd, Vi.sRet, Vi.sIf, Vi.sExpr, Vi.sPar, Vi.sPar3, Vi.slotOf, Vi.slotP, Vi.sAug, Vi.sAsg, Vi.sApp, Vi.sFor, Vi.vVar, Vi.vC, Vi.vOp, Vi.vOpA, Vi.v1, Vi.v2, Vi.vUn, Vi.vCB, Vi.vCall, Vi.vaNil, Vi.vaCons, Vi.vaIt, Vi.vTup, Vi.vLst, Vi.shs, Vi.vIx, Vi.itemRE, Vi.atD, Vi.itemsOf, L2.atI, L2.ixN, Vi.gI, Vi.gI0, Vi.gAdd, Vi.gMul, Vi.gNeg, Vi.gLen, Vi.gInt, Vi.gAbs, Vi.gList, Vi.gGcd, Vi.gSum, Vi.gIsi, Vi.tyD, Vi.isa, Vi.argsA, Vi.argA, Vi.isSeq, Vi.flatI, Vi.flat, Vi.flatL, Vi.fitM, Vi.ksB, Vi.truth, Vi.vTru, Vi.tAndT, Vi.tOrT, Vi.tNotT, Vi.vAndV, Vi.vOrV, Vi.vNotV, Vi.vIf, Vi.lineN, Vi.γName, Vi.γTup, Vi.γCons, Vi.γNil, Vi.tgMd, Vi.tYesV, flat_el, hm])
  subst g2
  have hlen : 0 + (rangeL 0 (k : Int).toNat).length = k := by simp [rangeL]
  rw [hlen] at g1
  have e0 : startE 5 [true, true, true] [.int p, el p n d, .int k] = [some (.tnt, .int p), some (.tnt, el p n d), some (.tnt, .int k), none, none] := rfl
  unfold f_raise_to m_raise_to
  rw [mF, e0, sSeq_ap, e1, SRes.bind_nx, sSeq_ap, sFor_ok e2, g1, SRes.bind_nx]
  simp [Vi.mF, Vi.finF, Vi.startE, Vi.slotsE, Vi.sSeq, Vi.sNx, Vi.sSet, Vi.setMd, Vi.sRet, Vi.sIf, Vi.sExpr, Vi.sPar, Vi.sPar3, Vi.slotOf, Vi.slotP, Vi.sAug, Vi.sAsg, Vi.sApp, Vi.sFor, Vi.vVar, Vi.vC, Vi.vOp, Vi.vOpA, Vi.v1, Vi.v2, Vi.vUn, Vi.vCB, Vi.vCall, Vi.vaNil, Vi.vaCons, Vi.vaIt, Vi.vTup, Vi.vLst, Vi.shs, Vi.vIx, Vi.itemRE, Vi.atD, Vi.itemsOf, L2.atI, L2.ixN, Vi.gI, Vi.gI0, Vi.gAdd, Vi.gMul, Vi.gNeg, Vi.gLen, Vi.gInt, Vi.gAbs, Vi.gList, Vi.gGcd, Vi.gSum, Vi.gIsi, Vi.tyD, Vi.isa, Vi.argsA, Vi.argA, Vi.isSeq, Vi.flatI, Vi.flat, Vi.flatL, Vi.fitM, Vi.ksB, Vi.truth, Vi.vTru, Vi.tAndT, Vi.tOrT, Vi.tNotT, Vi.vAndV, Vi.vOrV, Vi.vNotV, Vi.vIf, Vi.lineN, Vi.γName, Vi.γTup, Vi.γCons, Vi.γNil, Vi.tgMd, Vi.tYesV]
end
/-! the fields -/
theorem gNotIn_ints (l : List Int) (n : Int) : gNotIn (.int n) (.tup (l.map .int)) = some (.bl (!l.any fun d => d == n)) := by
  have h1 : (l.map D.int).all scal = true := by
    rw [List.all_map]
    exact List.all_eq_true.mpr fun _ _ => rfl
  have h2 : ((l.map D.int).any fun d => eqS d (.int n)) = l.any fun d => d == n := by
    rw [List.any_map]
    rfl
  simp only [gNotIn, inD, itemsOf, h1, scal, Bool.and_self, if_true, h2, Option.map_some]
theorem fields_ok (n : Int) : f__law_fields [.int n] = .rt (.bl true) := by
  have m1 : mt_InvalidField "InvalidField" = some true := by decide
  have x1 : xTb "InvalidField" (.cls "GridError") = some true := by decide
  have x2 : xTb "InvalidField" (.ty .valueError) = some true := by decide
  have x3 : xTb "InvalidField" (.cls "NoInverse") = some false := by decide
  have x4 : xTb "InvalidField" (.cls "InvalidNumber") = some false := by decide
  have g1 : gNotIn (.int n) c_PRIMES = some (.bl (!([2, 3, 5, 7, 11] : List Int).any fun d => d == n)) := gNotIn_ints [2, 3, 5, 7, 11] n
  have g2 : gNotIn (.int n) (.tup [.int 0, .int 2, .int 3, .int 5, .int 7, .int 11]) = some (.bl (!([0, 2, 3, 5, 7, 11] : List Int).any fun d => d == n)) := gNotIn_ints [0, 2, 3, 5, 7, 11] n
  have hb : (([0, 2, 3, 5, 7, 11] : List Int).any fun d => d == n) = (decide (n = 0) || ([2, 3, 5, 7, 11] : List Int).any fun d => d == n) := by
    rw [List.any_cons]
    congr 1
    by_cases h : n = 0
    · subst h; rfl
    · rw [decide_eq_false h]; exact beq_eq_false_iff_ne.mpr (Ne.symm h)
  rw [hb] at g2
  generalize (([2, 3, 5, 7, 11] : List Int).any fun d => d == n) = b at g1 g2
  unfold f__law_fields m__law_fields
  by_cases h0 : n = 0
  · have hc : f_check_field [.int n] = .rt .non := by
      unfold f_check_field m_check_field
      simp [Vi.mF, Vi.finF, Vi.startE, Vi.slotsE, Vi.sSeq, Vi.sNx, Vi.sSet, Vi.setMd, Vi.sRet, Vi.sIf, Vi.sExpr, Vi.sPar, Vi.sPar3, Vi.slotOf, Vi.slotP, Vi.sAug, Vi.sAsg, Vi.sApp, Vi.sFor, Vi.vVar, Vi.vC, Vi.vOp, Vi.vOpA, Vi.v1, Vi.v2, Vi.vUn, Vi.vCB, Vi.vCall, Vi.vaNil, Vi.vaCons, Vi.vaIt, Vi.vTup, Vi.vLst, Vi.shs, Vi.vIx, Vi.itemRE, Vi.atD, Vi.itemsOf, L2.atI, L2.ixN, Vi.gI, Vi.gI0, Vi.gAdd, Vi.gMul, Vi.gNeg, Vi.gLen, Vi.gInt, Vi.gAbs, Vi.gList, Vi.gGcd, Vi.gSum, Vi.gIsi, Vi.tyD, Vi.isa, Vi.argsA, Vi.argA, Vi.isSeq, Vi.flatI, Vi.flat, Vi.flatL, Vi.fitM, Vi.ksB, Vi.truth, Vi.vTru, Vi.tAndT, Vi.tOrT, Vi.tNotT, Vi.vAndV, Vi.vOrV, Vi.vNotV, Vi.vIf, Vi.lineN, Vi.γName, Vi.γTup, Vi.γCons, Vi.γNil, Vi.tgMd, Vi.tYesV, h0]
    simp only [h0, decide_true, Bool.true_or, Bool.not_true] at g2 hc ⊢
    simp [Vi.mF, Vi.finF, Vi.startE, Vi.slotsE, Vi.sSeq, Vi.sNx, Vi.sSet, Vi.setMd, Vi.sRet, Vi.sIf, Vi.sExpr, Vi.sPar, Vi.sPar3, Vi.slotOf, Vi.slotP, Vi.sAug, Vi.sAsg, Vi.sApp, Vi.sFor, Vi.vVar, Vi.vC, Vi.vOp, Vi.vOpA, Vi.v1, Vi.v2, Vi.vUn, Vi.vCB, Vi.vCall, Vi.vaNil, Vi.vaCons, Vi.vaIt, Vi.vTup, Vi.vLst, Vi.shs, Vi.vIx, Vi.itemRE, Vi.atD, Vi.itemsOf, L2.atI, L2.ixN, Vi.gI, Vi.gI0, Vi.gAdd, Vi.gMul, Vi.gNeg, Vi.gLen, Vi.gInt, Vi.gAbs, Vi.gList, Vi.gGcd, Vi.gSum, Vi.gIsi, Vi.tyD, Vi.isa, Vi.argsA, Vi.argA, Vi.isSeq, Vi.flatI, Vi.flat, Vi.flatL, Vi.fitM, Vi.ksB, Vi.truth, Vi.vTru, Vi.tAndT, Vi.tOrT, Vi.tNotT, Vi.vAndV, Vi.vOrV, Vi.vNotV, Vi.vIf, Vi.lineN, Vi.γName, Vi.γTup, Vi.γCons, Vi.γNil, Vi.tgMd, Vi.tYesV, hc, sTryAs, g2]
  · cases b with
    | true =>
      have hc : f_check_field [.int n] = .rt .non := by
        unfold f_check_field m_check_field
        simp [Vi.mF, Vi.finF, Vi.startE, Vi.slotsE, Vi.sSeq, Vi.sNx, Vi.sSet, Vi.setMd, Vi.sRet, Vi.sIf, Vi.sExpr, Vi.sPar, Vi.sPar3, Vi.slotOf, Vi.slotP, Vi.sAug, Vi.sAsg, Vi.sApp, Vi.sFor, Vi.vVar, Vi.vC, Vi.vOp, Vi.vOpA, Vi.v1, Vi.v2, Vi.vUn, Vi.vCB, Vi.vCall, Vi.vaNil, Vi.vaCons, Vi.vaIt, Vi.vTup, Vi.vLst, Vi.shs, Vi.vIx, Vi.itemRE, Vi.atD, Vi.itemsOf, L2.atI, L2.ixN, Vi.gI, Vi.gI0, Vi.gAdd, Vi.gMul, Vi.gNeg, Vi.gLen, Vi.gInt, Vi.gAbs, Vi.gList, Vi.gGcd, Vi.gSum, Vi.gIsi, Vi.tyD, Vi.isa, Vi.argsA, Vi.argA, Vi.isSeq, Vi.flatI, Vi.flat, Vi.flatL, Vi.fitM, Vi.ksB, Vi.truth, Vi.vTru, Vi.tAndT, Vi.tOrT, Vi.tNotT, Vi.vAndV, Vi.vOrV, Vi.vNotV, Vi.vIf, Vi.lineN, Vi.γName, Vi.γTup, Vi.γCons, Vi.γNil, Vi.tgMd, Vi.tYesV, h0, g1]
      simp only [Bool.or_true, Bool.not_true] at g2
      simp [Vi.mF, Vi.finF, Vi.startE, Vi.slotsE, Vi.sSeq, Vi.sNx, Vi.sSet, Vi.setMd, Vi.sRet, Vi.sIf, Vi.sExpr, Vi.sPar, Vi.sPar3, Vi.slotOf, Vi.slotP, Vi.sAug, Vi.sAsg, Vi.sApp, Vi.sFor, Vi.vVar, Vi.vC, Vi.vOp, Vi.vOpA, Vi.v1, Vi.v2, Vi.vUn, Vi.vCB, Vi.vCall, Vi.vaNil, Vi.vaCons, Vi.vaIt, Vi.vTup, Vi.vLst, Vi.shs, Vi.vIx, Vi.itemRE, Vi.atD, Vi.itemsOf, L2.atI, L2.ixN, Vi.gI, Vi.gI0, Vi.gAdd, Vi.gMul, Vi.gNeg, Vi.gLen, Vi.gInt, Vi.gAbs, Vi.gList, Vi.gGcd, Vi.gSum, Vi.gIsi, Vi.tyD, Vi.isa, Vi.argsA, Vi.argA, Vi.isSeq, Vi.flatI, Vi.flat, Vi.flatL, Vi.fitM, Vi.ksB, Vi.truth, Vi.vTru, Vi.tAndT, Vi.tOrT, Vi.tNotT, Vi.vAndV, Vi.vOrV, Vi.vNotV, Vi.vIf, Vi.lineN, Vi.γName, Vi.γTup, Vi.γCons, Vi.γNil, Vi.tgMd, Vi.tYesV, hc, sTryAs, g2]
    | false =>
      have hc : f_check_field [.int n] = .ex ⟨"InvalidField", none⟩ := by
        unfold f_check_field m_check_field
        simp [Vi.mF, Vi.finF, Vi.startE, Vi.slotsE, Vi.sSeq, Vi.sNx, Vi.sSet, Vi.setMd, Vi.sRet, Vi.sIf, Vi.sExpr, Vi.sPar, Vi.sPar3, Vi.slotOf, Vi.slotP, Vi.sAug, Vi.sAsg, Vi.sApp, Vi.sFor, Vi.vVar, Vi.vC, Vi.vOp, Vi.vOpA, Vi.v1, Vi.v2, Vi.vUn, Vi.vCB, Vi.vCall, Vi.vaNil, Vi.vaCons, Vi.vaIt, Vi.vTup, Vi.vLst, Vi.shs, Vi.vIx, Vi.itemRE, Vi.atD, Vi.itemsOf, L2.atI, L2.ixN, Vi.gI, Vi.gI0, Vi.gAdd, Vi.gMul, Vi.gNeg, Vi.gLen, Vi.gInt, Vi.gAbs, Vi.gList, Vi.gGcd, Vi.gSum, Vi.gIsi, Vi.tyD, Vi.isa, Vi.argsA, Vi.argA, Vi.isSeq, Vi.flatI, Vi.flat, Vi.flatL, Vi.fitM, Vi.ksB, Vi.truth, Vi.vTru, Vi.tAndT, Vi.tOrT, Vi.tNotT, Vi.vAndV, Vi.vOrV, Vi.vNotV, Vi.vIf, Vi.lineN, Vi.γName, Vi.γTup, Vi.γCons, Vi.γNil, Vi.tgMd, Vi.tYesV, h0, g1]
      simp only [h0, decide_false, Bool.or_false, Bool.not_false] at g2
      simp [Vi.mF, Vi.finF, Vi.startE, Vi.slotsE, Vi.sSeq, Vi.sNx, Vi.sSet, Vi.setMd, Vi.sRet, Vi.sIf, Vi.sExpr, Vi.sPar, Vi.sPar3, Vi.slotOf, Vi.slotP, Vi.sAug, Vi.sAsg, Vi.sApp, Vi.sFor, Vi.vVar, Vi.vC, Vi.vOp, Vi.vOpA, Vi.v1, Vi.v2, Vi.vUn, Vi.vCB, Vi.vCall, Vi.vaNil, Vi.vaCons, Vi.vaIt, Vi.vTup, Vi.vLst, Vi.shs, Vi.vIx, Vi.itemRE, Vi.atD, Vi.itemsOf, L2.atI, L2.ixN, Vi.gI, Vi.gI0, Vi.gAdd, Vi.gMul, Vi.gNeg, Vi.gLen, Vi.gInt, Vi.gAbs, Vi.gList, Vi.gGcd, Vi.gSum, Vi.gIsi, Vi.tyD, Vi.isa, Vi.argsA, Vi.argA, Vi.isSeq, Vi.flatI, Vi.flat, Vi.flatL, Vi.fitM, Vi.ksB, Vi.truth, Vi.vTru, Vi.tAndT, Vi.tOrT, Vi.tNotT, Vi.vAndV, Vi.vOrV, Vi.vNotV, Vi.vIf, Vi.lineN, Vi.γName, Vi.γTup, Vi.γCons, Vi.γNil, Vi.tgMd, Vi.tYesV, hc, sTryAs, m1, x1, x2, x3, x4, SRes.unS, unExn, vIsE, vIsEs, anyTb, oneC, g2]
end Ma

set_option maxRecDepth 100000
set_option linter.all false
set_option exponentiation.threshold 100000
namespace Ma
open PySem Vi Mi
section
variable {p : Nat} (hp : p ∈ P6)
include hp
theorem no_inv {n d : Int} : f__law_no_inverse [.int p, el p 0 1, el p n d] = .rt (.bl true) := by
  have m1 : mt_NoInverse "NoInverse" = some true := by decide
  have m2 : mt_GridError "NoInverse" = some true := by decide
  have x1 : xTb "NoInverse" (.ty .valueError) = some true := by decide
  have x2 : xTb "NoInverse" (.cls "InvalidField") = some false := by decide
  have x3 : xTb "NoInverse" (.cls "InvalidNumber") = some false := by decide
  have x4 : xTb "NoInverse" (.cls "NoInverse") = some true := by decide
  have a := e_invz hp
  have b := e_divz hp (n := n) (d := d)
  have c := e_ratioz hp (n := 7)
  have f1 : flat (el p 0 1) = true := flat_el
  have f2 : flat (el p n d) = true := flat_el
  generalize el p 0 1 = z at *
  generalize el p n d = x at *
  unfold f__law_no_inverse m__law_no_inverse
  simp [Vi.mF, Vi.finF, Vi.startE, Vi.slotsE, Vi.sSeq, Vi.sNx, Vi.sSet, Vi.setMd, Vi.sRet, Vi.sIf, Vi.sExpr, Vi.sPar, Vi.sPar3, Vi.slotOf, Vi.slotP, Vi.sAug, Vi.sAsg, Vi.sApp, Vi.sFor, Vi.vVar, Vi.vC, Vi.vOp, Vi.vOpA, Vi.v1, Vi.v2, Vi.vUn, Vi.vCB, Vi.vCall, Vi.vaNil, Vi.vaCons, Vi.vaIt, Vi.vTup, Vi.vLst, Vi.shs, Vi.vIx, Vi.itemRE, Vi.atD, Vi.itemsOf, L2.atI, L2.ixN, Vi.gI, Vi.gI0, Vi.gAdd, Vi.gMul, Vi.gNeg, Vi.gLen, Vi.gInt, Vi.gAbs, Vi.gList, Vi.gGcd, Vi.gSum, Vi.gIsi, Vi.tyD, Vi.isa, Vi.argsA, Vi.argA, Vi.isSeq, Vi.flatI, Vi.flat, Vi.flatL, Vi.fitM, Vi.ksB, Vi.truth, Vi.vTru, Vi.tAndT, Vi.tOrT, Vi.tNotT, Vi.vAndV, Vi.vOrV, Vi.vNotV, Vi.vIf, Vi.lineN, Vi.γName, Vi.γTup, Vi.γCons, Vi.γNil, Vi.tgMd, Vi.tYesV, a, b, c, f1, f2, sTryAs, sTry, handle, SRes.unX, m1, m2, x1, x2, x3, x4, SRes.unS, unExn, vIsE, vIsEs, anyTb, oneC]
end
/-! is_number -/
theorem isn_int {p : Nat} (hp : p ∈ P5) (m : Int) : f_is_number [.int p, .int m] = .rt (.bl (decide (0 ≤ m) && decide (m < p))) := by
  have hi : f_is_integer [.int m] = .rt (.bl true) := by
    unfold f_is_integer m_is_integer
    simp [Vi.mF, Vi.finF, Vi.startE, Vi.slotsE, Vi.sSeq, Vi.sNx, Vi.sSet, Vi.setMd, Vi.sRet, Vi.sIf, Vi.sExpr, Vi.sPar, Vi.sPar3, Vi.slotOf, Vi.slotP, Vi.sAug, Vi.sAsg, Vi.sApp, Vi.sFor, Vi.vVar, Vi.vC, Vi.vOp, Vi.vOpA, Vi.v1, Vi.v2, Vi.vUn, Vi.vCB, Vi.vCall, Vi.vaNil, Vi.vaCons, Vi.vaIt, Vi.vTup, Vi.vLst, Vi.shs, Vi.vIx, Vi.itemRE, Vi.atD, Vi.itemsOf, L2.atI, L2.ixN, Vi.gI, Vi.gI0, Vi.gAdd, Vi.gMul, Vi.gNeg, Vi.gLen, Vi.gInt, Vi.gAbs, Vi.gList, Vi.gGcd, Vi.gSum, Vi.gIsi, Vi.tyD, Vi.isa, Vi.argsA, Vi.argA, Vi.isSeq, Vi.flatI, Vi.flat, Vi.flatL, Vi.fitM, Vi.ksB, Vi.truth, Vi.vTru, Vi.tAndT, Vi.tOrT, Vi.tNotT, Vi.vAndV, Vi.vOrV, Vi.vNotV, Vi.vIf, Vi.lineN, Vi.γName, Vi.γTup, Vi.γCons, Vi.γNil, Vi.tgMd, Vi.tYesV]
  unfold f_is_number m_is_number
  by_cases h : 0 ≤ m
  · simp [Vi.mF, Vi.finF, Vi.startE, Vi.slotsE, Vi.sSeq, Vi.sNx, Vi.sSet, Vi.setMd, Vi.sRet, Vi.sIf, Vi.sExpr, Vi.sPar, Vi.sPar3, Vi.slotOf, Vi.slotP, Vi.sAug, Vi.sAsg, Vi.sApp, Vi.sFor, Vi.vVar, Vi.vC, Vi.vOp, Vi.vOpA, Vi.v1, Vi.v2, Vi.vUn, Vi.vCB, Vi.vCall, Vi.vaNil, Vi.vaCons, Vi.vaIt, Vi.vTup, Vi.vLst, Vi.shs, Vi.vIx, Vi.itemRE, Vi.atD, Vi.itemsOf, L2.atI, L2.ixN, Vi.gI, Vi.gI0, Vi.gAdd, Vi.gMul, Vi.gNeg, Vi.gLen, Vi.gInt, Vi.gAbs, Vi.gList, Vi.gGcd, Vi.gSum, Vi.gIsi, Vi.tyD, Vi.isa, Vi.argsA, Vi.argA, Vi.isSeq, Vi.flatI, Vi.flat, Vi.flatL, Vi.fitM, Vi.ksB, Vi.truth, Vi.vTru, Vi.tAndT, Vi.tOrT, Vi.tNotT, Vi.vAndV, Vi.vOrV, Vi.vNotV, Vi.vIf, Vi.lineN, Vi.γName, Vi.γTup, Vi.γCons, Vi.γNil, Vi.tgMd, Vi.tYesV, hi, p_pn hp, vChain, h]
  · simp [Vi.mF, Vi.finF, Vi.startE, Vi.slotsE, Vi.sSeq, Vi.sNx, Vi.sSet, Vi.setMd, Vi.sRet, Vi.sIf, Vi.sExpr, Vi.sPar, Vi.sPar3, Vi.slotOf, Vi.slotP, Vi.sAug, Vi.sAsg, Vi.sApp, Vi.sFor, Vi.vVar, Vi.vC, Vi.vOp, Vi.vOpA, Vi.v1, Vi.v2, Vi.vUn, Vi.vCB, Vi.vCall, Vi.vaNil, Vi.vaCons, Vi.vaIt, Vi.vTup, Vi.vLst, Vi.shs, Vi.vIx, Vi.itemRE, Vi.atD, Vi.itemsOf, L2.atI, L2.ixN, Vi.gI, Vi.gI0, Vi.gAdd, Vi.gMul, Vi.gNeg, Vi.gLen, Vi.gInt, Vi.gAbs, Vi.gList, Vi.gGcd, Vi.gSum, Vi.gIsi, Vi.tyD, Vi.isa, Vi.argsA, Vi.argA, Vi.isSeq, Vi.flatI, Vi.flat, Vi.flatL, Vi.fitM, Vi.ksB, Vi.truth, Vi.vTru, Vi.tAndT, Vi.tOrT, Vi.tNotT, Vi.vAndV, Vi.vOrV, Vi.vNotV, Vi.vIf, Vi.lineN, Vi.γName, Vi.γTup, Vi.γCons, Vi.γNil, Vi.tgMd, Vi.tYesV, hi, p_pn hp, vChain, h]
theorem isn_tup {p : Nat} (hp : p ∈ P5) {ds : List D} (h : flatL ds = true) : f_is_number [.int p, .tup ds] = .rt (.bl false) := by
  have hi : f_is_integer [.tup ds] = .rt (.bl false) := by
    unfold f_is_integer m_is_integer
    simp [Vi.mF, Vi.finF, Vi.startE, Vi.slotsE, Vi.sSeq, Vi.sNx, Vi.sSet, Vi.setMd, Vi.sRet, Vi.sIf, Vi.sExpr, Vi.sPar, Vi.sPar3, Vi.slotOf, Vi.slotP, Vi.sAug, Vi.sAsg, Vi.sApp, Vi.sFor, Vi.vVar, Vi.vC, Vi.vOp, Vi.vOpA, Vi.v1, Vi.v2, Vi.vUn, Vi.vCB, Vi.vCall, Vi.vaNil, Vi.vaCons, Vi.vaIt, Vi.vTup, Vi.vLst, Vi.shs, Vi.vIx, Vi.itemRE, Vi.atD, Vi.itemsOf, L2.atI, L2.ixN, Vi.gI, Vi.gI0, Vi.gAdd, Vi.gMul, Vi.gNeg, Vi.gLen, Vi.gInt, Vi.gAbs, Vi.gList, Vi.gGcd, Vi.gSum, Vi.gIsi, Vi.tyD, Vi.isa, Vi.argsA, Vi.argA, Vi.isSeq, Vi.flatI, Vi.flat, Vi.flatL, Vi.fitM, Vi.ksB, Vi.truth, Vi.vTru, Vi.tAndT, Vi.tOrT, Vi.tNotT, Vi.vAndV, Vi.vOrV, Vi.vNotV, Vi.vIf, Vi.lineN, Vi.γName, Vi.γTup, Vi.γCons, Vi.γNil, Vi.tgMd, Vi.tYesV, h]
  unfold f_is_number m_is_number
  simp [Vi.mF, Vi.finF, Vi.startE, Vi.slotsE, Vi.sSeq, Vi.sNx, Vi.sSet, Vi.setMd, Vi.sRet, Vi.sIf, Vi.sExpr, Vi.sPar, Vi.sPar3, Vi.slotOf, Vi.slotP, Vi.sAug, Vi.sAsg, Vi.sApp, Vi.sFor, Vi.vVar, Vi.vC, Vi.vOp, Vi.vOpA, Vi.v1, Vi.v2, Vi.vUn, Vi.vCB, Vi.vCall, Vi.vaNil, Vi.vaCons, Vi.vaIt, Vi.vTup, Vi.vLst, Vi.shs, Vi.vIx, Vi.itemRE, Vi.atD, Vi.itemsOf, L2.atI, L2.ixN, Vi.gI, Vi.gI0, Vi.gAdd, Vi.gMul, Vi.gNeg, Vi.gLen, Vi.gInt, Vi.gAbs, Vi.gList, Vi.gGcd, Vi.gSum, Vi.gIsi, Vi.tyD, Vi.isa, Vi.argsA, Vi.argA, Vi.isSeq, Vi.flatI, Vi.flat, Vi.flatL, Vi.fitM, Vi.ksB, Vi.truth, Vi.vTru, Vi.tAndT, Vi.tOrT, Vi.tNotT, Vi.vAndV, Vi.vOrV, Vi.vNotV, Vi.vIf, Vi.lineN, Vi.γName, Vi.γTup, Vi.γCons, Vi.γNil, Vi.tgMd, Vi.tYesV, hi, p_pn hp, h]
theorem isn0_int (m : Int) : f_is_number [.int 0, .int m] = .rt (.bl false) := by
  unfold f_is_number m_is_number
  simp [Vi.mF, Vi.finF, Vi.startE, Vi.slotsE, Vi.sSeq, Vi.sNx, Vi.sSet, Vi.setMd, Vi.sRet, Vi.sIf, Vi.sExpr, Vi.sPar, Vi.sPar3, Vi.slotOf, Vi.slotP, Vi.sAug, Vi.sAsg, Vi.sApp, Vi.sFor, Vi.vVar, Vi.vC, Vi.vOp, Vi.vOpA, Vi.v1, Vi.v2, Vi.vUn, Vi.vCB, Vi.vCall, Vi.vaNil, Vi.vaCons, Vi.vaIt, Vi.vTup, Vi.vLst, Vi.shs, Vi.vIx, Vi.itemRE, Vi.atD, Vi.itemsOf, L2.atI, L2.ixN, Vi.gI, Vi.gI0, Vi.gAdd, Vi.gMul, Vi.gNeg, Vi.gLen, Vi.gInt, Vi.gAbs, Vi.gList, Vi.gGcd, Vi.gSum, Vi.gIsi, Vi.tyD, Vi.isa, Vi.argsA, Vi.argA, Vi.isSeq, Vi.flatI, Vi.flat, Vi.flatL, Vi.fitM, Vi.ksB, Vi.truth, Vi.vTru, Vi.tAndT, Vi.tOrT, Vi.tNotT, Vi.vAndV, Vi.vOrV, Vi.vNotV, Vi.vIf, Vi.lineN, Vi.γName, Vi.γTup, Vi.γCons, Vi.γNil, Vi.tgMd, Vi.tYesV]
theorem isn0_len {ds : List D} (h : flatL ds = true) (hl : ds.length ≠ 2) : f_is_number [.int 0, .tup ds] = .rt (.bl false) := by
  have hl' : ¬ (ds.length : Int) = 2 := by omega
  unfold f_is_number m_is_number
  simp [Vi.mF, Vi.finF, Vi.startE, Vi.slotsE, Vi.sSeq, Vi.sNx, Vi.sSet, Vi.setMd, Vi.sRet, Vi.sIf, Vi.sExpr, Vi.sPar, Vi.sPar3, Vi.slotOf, Vi.slotP, Vi.sAug, Vi.sAsg, Vi.sApp, Vi.sFor, Vi.vVar, Vi.vC, Vi.vOp, Vi.vOpA, Vi.v1, Vi.v2, Vi.vUn, Vi.vCB, Vi.vCall, Vi.vaNil, Vi.vaCons, Vi.vaIt, Vi.vTup, Vi.vLst, Vi.shs, Vi.vIx, Vi.itemRE, Vi.atD, Vi.itemsOf, L2.atI, L2.ixN, Vi.gI, Vi.gI0, Vi.gAdd, Vi.gMul, Vi.gNeg, Vi.gLen, Vi.gInt, Vi.gAbs, Vi.gList, Vi.gGcd, Vi.gSum, Vi.gIsi, Vi.tyD, Vi.isa, Vi.argsA, Vi.argA, Vi.isSeq, Vi.flatI, Vi.flat, Vi.flatL, Vi.fitM, Vi.ksB, Vi.truth, Vi.vTru, Vi.tAndT, Vi.tOrT, Vi.tNotT, Vi.vAndV, Vi.vOrV, Vi.vNotV, Vi.vIf, Vi.lineN, Vi.γName, Vi.γTup, Vi.γCons, Vi.γNil, Vi.tgMd, Vi.tYesV, h, hl']
theorem isn0_pair (a b : Int) : f_is_number [.int 0, .tup [.int a, .int b]] = .rt (.bl (decide (0 < b) && decide (((a.natAbs.gcd b.natAbs : Nat) : Int) = 1))) := by
  have hi : ∀ m, f_is_integer [.int m] = .rt (.bl true) := fun m => by
    unfold f_is_integer m_is_integer
    simp [Vi.mF, Vi.finF, Vi.startE, Vi.slotsE, Vi.sSeq, Vi.sNx, Vi.sSet, Vi.setMd, Vi.sRet, Vi.sIf, Vi.sExpr, Vi.sPar, Vi.sPar3, Vi.slotOf, Vi.slotP, Vi.sAug, Vi.sAsg, Vi.sApp, Vi.sFor, Vi.vVar, Vi.vC, Vi.vOp, Vi.vOpA, Vi.v1, Vi.v2, Vi.vUn, Vi.vCB, Vi.vCall, Vi.vaNil, Vi.vaCons, Vi.vaIt, Vi.vTup, Vi.vLst, Vi.shs, Vi.vIx, Vi.itemRE, Vi.atD, Vi.itemsOf, L2.atI, L2.ixN, Vi.gI, Vi.gI0, Vi.gAdd, Vi.gMul, Vi.gNeg, Vi.gLen, Vi.gInt, Vi.gAbs, Vi.gList, Vi.gGcd, Vi.gSum, Vi.gIsi, Vi.tyD, Vi.isa, Vi.argsA, Vi.argA, Vi.isSeq, Vi.flatI, Vi.flat, Vi.flatL, Vi.fitM, Vi.ksB, Vi.truth, Vi.vTru, Vi.tAndT, Vi.tOrT, Vi.tNotT, Vi.vAndV, Vi.vOrV, Vi.vNotV, Vi.vIf, Vi.lineN, Vi.γName, Vi.γTup, Vi.γCons, Vi.γNil, Vi.tgMd, Vi.tYesV]
  unfold f_is_number m_is_number
  by_cases h : 0 < b
  · simp [Vi.mF, Vi.finF, Vi.startE, Vi.slotsE, Vi.sSeq, Vi.sNx, Vi.sSet, Vi.setMd, Vi.sRet, Vi.sIf, Vi.sExpr, Vi.sPar, Vi.sPar3, Vi.slotOf, Vi.slotP, Vi.sAug, Vi.sAsg, Vi.sApp, Vi.sFor, Vi.vVar, Vi.vC, Vi.vOp, Vi.vOpA, Vi.v1, Vi.v2, Vi.vUn, Vi.vCB, Vi.vCall, Vi.vaNil, Vi.vaCons, Vi.vaIt, Vi.vTup, Vi.vLst, Vi.shs, Vi.vIx, Vi.itemRE, Vi.atD, Vi.itemsOf, L2.atI, L2.ixN, Vi.gI, Vi.gI0, Vi.gAdd, Vi.gMul, Vi.gNeg, Vi.gLen, Vi.gInt, Vi.gAbs, Vi.gList, Vi.gGcd, Vi.gSum, Vi.gIsi, Vi.tyD, Vi.isa, Vi.argsA, Vi.argA, Vi.isSeq, Vi.flatI, Vi.flat, Vi.flatL, Vi.fitM, Vi.ksB, Vi.truth, Vi.vTru, Vi.tAndT, Vi.tOrT, Vi.tNotT, Vi.vAndV, Vi.vOrV, Vi.vNotV, Vi.vIf, Vi.lineN, Vi.γName, Vi.γTup, Vi.γCons, Vi.γNil, Vi.tgMd, Vi.tYesV, hi, h]
  · simp [Vi.mF, Vi.finF, Vi.startE, Vi.slotsE, Vi.sSeq, Vi.sNx, Vi.sSet, Vi.setMd, Vi.sRet, Vi.sIf, Vi.sExpr, Vi.sPar, Vi.sPar3, Vi.slotOf, Vi.slotP, Vi.sAug, Vi.sAsg, Vi.sApp, Vi.sFor, Vi.vVar, Vi.vC, Vi.vOp, Vi.vOpA, Vi.v1, Vi.v2, Vi.vUn, Vi.vCB, Vi.vCall, Vi.vaNil, Vi.vaCons, Vi.vaIt, Vi.vTup, Vi.vLst, Vi.shs, Vi.vIx, Vi.itemRE, Vi.atD, Vi.itemsOf, L2.atI, L2.ixN, Vi.gI, Vi.gI0, Vi.gAdd, Vi.gMul, Vi.gNeg, Vi.gLen, Vi.gInt, Vi.gAbs, Vi.gList, Vi.gGcd, Vi.gSum, Vi.gIsi, Vi.tyD, Vi.isa, Vi.argsA, Vi.argA, Vi.isSeq, Vi.flatI, Vi.flat, Vi.flatL, Vi.fitM, Vi.ksB, Vi.truth, Vi.vTru, Vi.tAndT, Vi.tOrT, Vi.tNotT, Vi.vAndV, Vi.vOrV, Vi.vNotV, Vi.vIf, Vi.lineN, Vi.γName, Vi.γTup, Vi.γCons, Vi.γNil, Vi.tgMd, Vi.tYesV, hi, h]
theorem kinds_ok {p : Nat} (hp : p ∈ P6) {n d : Int} (hd : d % p ≠ 0) (h1 : Bt 3000 n) (h2 : Bt 3000 d) (m : Int) : f__law_kinds [.int p, el p n d, .int m] = .rt (.bl true) := by
  rcases p6 hp with rfl | hp5
  · show f__law_kinds [.int 0, en (Rat.divInt n d), .int m] = _
    have hs := num_dvd_le (un0 hp rfl hd) h1 h2
    generalize Rat.divInt n d = q at *
    have hr : q.num.natAbs.gcd q.den = 1 := q.reduced
    have hq : 0 < q.den := Rat.den_pos q
    have a1 := isn0_len (ds := []) rfl (by decide)
    have a2 := isn0_len (ds := [.int 1, .int 1, .int 1]) rfl (by decide)
    have a3 : f_is_number [.int 0, .tup [.int q.num, .int q.den]] = .rt (.bl true) := by
      rw [isn0_pair]
      simp [hq, hr]
    have a4 := isn0_int m
    have a5 : f_is_number [.int 0, .tup [.int (2 * q.num), .int (2 * q.den)]] = .rt (.bl false) := by
      rw [isn0_pair]
      have : (2 * q.num).natAbs.gcd (2 * (q.den : Int)).natAbs = 2 := by
        rw [Int.natAbs_mul, Int.natAbs_mul, Int.natAbs_natCast]
        show Nat.gcd (2 * _) (2 * _) = 2
        rw [Nat.gcd_mul_left, hr]
      rw [this, Bool.and_eq_false_imp.mpr (fun _ => by decide)]
    have a6 : f_is_number [.int 0, .tup [.int q.num, .int 0]] = .rt (.bl false) := by
      rw [isn0_pair]
      simp
    have a7 : f_is_number [.int 0, .tup [.int (-q.num), .int (-q.den)]] = .rt (.bl false) := by
      rw [isn0_pair]
      have h0 : decide (0 < -(q.den : Int)) = false := decide_eq_false (by omega)
      rw [h0]
      rfl
    have a8 := isn0_len (ds := [.int q.num]) rfl (by simp)
    have l1 : Nat.log2 2 + q.num.natAbs.log2 < 100000000 := Bt.mulOk (x := 2) (Bt.of (k := 2) 2 (by decide) (by decide) (by decide)) hs.1 (by decide)
    have l2 : Nat.log2 2 + q.den.log2 < 100000000 := by
      have := Bt.mulOk (x := 2) (Bt.of (k := 2) 2 (by decide) (by decide) (by decide)) hs.2 (by decide)
      simpa using this
    simp only [en]
    unfold f__law_kinds m__law_kinds
    simp [Vi.mF, Vi.finF, Vi.startE, Vi.slotsE, Vi.sSeq, Vi.sNx, Vi.sSet, Vi.setMd, Vi.sRet, Vi.sIf, Vi.sExpr, Vi.sPar, Vi.sPar3, Vi.slotOf, Vi.slotP, Vi.sAug, Vi.sAsg, Vi.sApp, Vi.sFor, Vi.vVar, Vi.vC, Vi.vOp, Vi.vOpA, Vi.v1, Vi.v2, Vi.vUn, Vi.vCB, Vi.vCall, Vi.vaNil, Vi.vaCons, Vi.vaIt, Vi.vTup, Vi.vLst, Vi.shs, Vi.vIx, Vi.itemRE, Vi.atD, Vi.itemsOf, L2.atI, L2.ixN, Vi.gI, Vi.gI0, Vi.gAdd, Vi.gMul, Vi.gNeg, Vi.gLen, Vi.gInt, Vi.gAbs, Vi.gList, Vi.gGcd, Vi.gSum, Vi.gIsi, Vi.tyD, Vi.isa, Vi.argsA, Vi.argA, Vi.isSeq, Vi.flatI, Vi.flat, Vi.flatL, Vi.fitM, Vi.ksB, Vi.truth, Vi.vTru, Vi.tAndT, Vi.tOrT, Vi.tNotT, Vi.vAndV, Vi.vOrV, Vi.vNotV, Vi.vIf, Vi.lineN, Vi.γName, Vi.γTup, Vi.γCons, Vi.γNil, Vi.tgMd, Vi.tYesV, a1, a2, a3, a4, a5, a6, a7, a8, l1, l2, gNotB, gIsB]
  · rw [el_p hp5]
    obtain ⟨b1, b2, _⟩ := rs_ok hp5 (n := n) hd
    generalize rs p n d = x at *
    have a1 := isn_tup hp5 (ds := []) rfl
    have a2 := isn_tup hp5 (ds := [.int 1, .int 1, .int 1]) rfl
    have a3 := isn_int hp5 x
    rw [decide_eq_true b1, decide_eq_true b2] at a3
    have a4 := isn_int hp5 p
    rw [show decide ((p : Int) < p) = false by simp, Bool.and_false] at a4
    have a5 := isn_int hp5 m
    have a6 := isn_tup hp5 (ds := [.int x, .int 1]) rfl
    unfold f__law_kinds m__law_kinds
    by_cases h : 0 ≤ m
    · simp [Vi.mF, Vi.finF, Vi.startE, Vi.slotsE, Vi.sSeq, Vi.sNx, Vi.sSet, Vi.setMd, Vi.sRet, Vi.sIf, Vi.sExpr, Vi.sPar, Vi.sPar3, Vi.slotOf, Vi.slotP, Vi.sAug, Vi.sAsg, Vi.sApp, Vi.sFor, Vi.vVar, Vi.vC, Vi.vOp, Vi.vOpA, Vi.v1, Vi.v2, Vi.vUn, Vi.vCB, Vi.vCall, Vi.vaNil, Vi.vaCons, Vi.vaIt, Vi.vTup, Vi.vLst, Vi.shs, Vi.vIx, Vi.itemRE, Vi.atD, Vi.itemsOf, L2.atI, L2.ixN, Vi.gI, Vi.gI0, Vi.gAdd, Vi.gMul, Vi.gNeg, Vi.gLen, Vi.gInt, Vi.gAbs, Vi.gList, Vi.gGcd, Vi.gSum, Vi.gIsi, Vi.tyD, Vi.isa, Vi.argsA, Vi.argA, Vi.isSeq, Vi.flatI, Vi.flat, Vi.flatL, Vi.fitM, Vi.ksB, Vi.truth, Vi.vTru, Vi.tAndT, Vi.tOrT, Vi.tNotT, Vi.vAndV, Vi.vOrV, Vi.vNotV, Vi.vIf, Vi.lineN, Vi.γName, Vi.γTup, Vi.γCons, Vi.γNil, Vi.tgMd, Vi.tYesV, a1, a2, a3, a4, a5, a6, gNotB, gIsB, vChain, p_pn hp5, h]
    · simp [Vi.mF, Vi.finF, Vi.startE, Vi.slotsE, Vi.sSeq, Vi.sNx, Vi.sSet, Vi.setMd, Vi.sRet, Vi.sIf, Vi.sExpr, Vi.sPar, Vi.sPar3, Vi.slotOf, Vi.slotP, Vi.sAug, Vi.sAsg, Vi.sApp, Vi.sFor, Vi.vVar, Vi.vC, Vi.vOp, Vi.vOpA, Vi.v1, Vi.v2, Vi.vUn, Vi.vCB, Vi.vCall, Vi.vaNil, Vi.vaCons, Vi.vaIt, Vi.vTup, Vi.vLst, Vi.shs, Vi.vIx, Vi.itemRE, Vi.atD, Vi.itemsOf, L2.atI, L2.ixN, Vi.gI, Vi.gI0, Vi.gAdd, Vi.gMul, Vi.gNeg, Vi.gLen, Vi.gInt, Vi.gAbs, Vi.gList, Vi.gGcd, Vi.gSum, Vi.gIsi, Vi.tyD, Vi.isa, Vi.argsA, Vi.argA, Vi.isSeq, Vi.flatI, Vi.flat, Vi.flatL, Vi.fitM, Vi.ksB, Vi.truth, Vi.vTru, Vi.tAndT, Vi.tOrT, Vi.tNotT, Vi.vAndV, Vi.vOrV, Vi.vNotV, Vi.vIf, Vi.lineN, Vi.γName, Vi.γTup, Vi.γCons, Vi.γNil, Vi.tgMd, Vi.tYesV, a1, a2, a3, a4, a5, a6, gNotB, gIsB, vChain, p_pn hp5, h]
end Ma

set_option maxRecDepth 100000
set_option linter.all false
set_option exponentiation.threshold 100000
namespace Ma
open PySem Vi Mi
theorem at_ok {vs : List Int} (hs : Sm vs) {i : Int} (h0 : 0 ≤ i) (h1 : i < vs.length) : ∃ v, L2.atI (vs.map D.int) i = some (.int v) ∧ 0 ≤ v ∧ v < 1000 := by
  have hi : i.toNat < vs.length := by omega
  have hv := hs _ (List.getElem_mem hi)
  refine ⟨vs[i.toNat], ?_, hv⟩
  unfold L2.atI L2.ixN
  rw [if_pos h0, if_pos (by rw [List.length_map]; exact h1)]
  simp [hi]
/-- what _law_pair gives -/
structure PairOk (p : Nat) (n d : Int) : Prop where
  bn : Bt 20 n
  bd : Bt 20 d
  un : d % p ≠ 0
  one : p ≠ 0 → d = 1
theorem pair_ok {p : Nat} (hp : p ∈ P6) {vs : List Int} (hs : Sm vs) {a : Int} (h0 : 0 ≤ a) (h1 : a + 2 < vs.length) (wide : Bool) :
    ∃ n d, f__law_pair [.lst (vs.map .int), .int a, .int p, .bl wide] = .rt (.tup [.int n, .int d]) ∧ PairOk p n d := by
  obtain ⟨v0, e0, g0, k0⟩ := at_ok hs h0 (by omega)
  obtain ⟨v1, e1, g1, k1⟩ := at_ok hs (i := a + 1) (by omega) (by omega)
  obtain ⟨v2, e2, g2, k2⟩ := at_ok hs (i := a + 2) (by omega) h1
  have b0 : v0.natAbs.log2 + Nat.log2 1000 < 100000000 := Bt.mulOk (y := 1000) (Bt.of (k := 10) (x := v0) 1000 (by omega) (by omega) (by decide)) (Bt.of (k := 10) 1000 (by decide) (by decide) (by decide)) (by decide)
  have b1 : v1.natAbs.log2 + Nat.log2 1000 < 100000000 := Bt.mulOk (y := 1000) (Bt.of (k := 10) (x := v1) 1000 (by omega) (by omega) (by decide)) (Bt.of (k := 10) 1000 (by decide) (by decide) (by decide)) (by decide)
  have m1 := Int.emod_nonneg (v1 * 1000 + v2) (b := 999999) (by decide)
  have m2 := Int.emod_lt_of_pos (v1 * 1000 + v2) (b := 999999) (by decide)
  have m3 := Int.emod_nonneg v1 (b := 12) (by decide)
  have m4 := Int.emod_lt_of_pos v1 (b := 12) (by decide)
  have m5 := Int.emod_nonneg v0 (b := 601) (by decide)
  have m6 := Int.emod_lt_of_pos v0 (b := 601) (by decide)
  refine ⟨if v2 % 5 = 0 then 0 else if wide then v0 * 1000 + v1 - 500000 else v0 % 601 - 300, if p = 0 then 1 + (if wide then (v1 * 1000 + v2) % 999999 else v1 % 12) else 1, ?_, ?_⟩
  · unfold f__law_pair m__law_pair
    by_cases h5 : v2 % 5 = 0 <;> by_cases hp0 : p = 0 <;> cases wide <;> simp [Vi.mF, Vi.finF, Vi.startE, Vi.slotsE, Vi.sSeq, Vi.sNx, Vi.sSet, Vi.setMd, Vi.sRet, Vi.sIf, Vi.sExpr, Vi.sPar, Vi.sPar3, Vi.slotOf, Vi.slotP, Vi.sAug, Vi.sAsg, Vi.sApp, Vi.sFor, Vi.vVar, Vi.vC, Vi.vOp, Vi.vOpA, Vi.v1, Vi.v2, Vi.vUn, Vi.vCB, Vi.vCall, Vi.vaNil, Vi.vaCons, Vi.vaIt, Vi.vTup, Vi.vLst, Vi.shs, Vi.vIx, Vi.itemRE, Vi.atD, Vi.itemsOf, Vi.gI, Vi.gI0, Vi.gAdd, Vi.gMul, Vi.gNeg, Vi.gLen, Vi.gInt, Vi.gAbs, Vi.gList, Vi.gGcd, Vi.gSum, Vi.gIsi, Vi.tyD, Vi.isa, Vi.argsA, Vi.argA, Vi.isSeq, Vi.flatI, Vi.flat, Vi.flatL, Vi.fitM, Vi.ksB, Vi.truth, Vi.vTru, Vi.tAndT, Vi.tOrT, Vi.tNotT, Vi.vAndV, Vi.vOrV, Vi.vNotV, Vi.vIf, Vi.lineN, Vi.γName, Vi.γTup, Vi.γCons, Vi.γNil, Vi.tgMd, Vi.tYesV, e0, e1, e2, b0, b1, h5, hp0]
  · refine ⟨?_, ?_, ?_, fun h => if_neg h⟩
    · refine Bt.of 600000 ?_ ?_ (by decide)
      · split
        · decide
        · split <;> omega
      · split
        · decide
        · split <;> omega
    · refine Bt.of 1000000 ?_ ?_ (by decide)
      · split
        · split <;> omega
        · decide
      · split
        · split <;> omega
        · decide
    · by_cases hp0 : p = 0
      · subst hp0
        rw [if_pos rfl]
        simp only [Int.natCast_zero, Int.emod_zero, Int.ofNat_zero]
        split <;> omega
      · rw [if_neg hp0]
        exact un_one hp
end Ma

set_option maxRecDepth 100000
set_option linter.all false
set_option exponentiation.threshold 100000
namespace Ma
open PySem Vi Mi
theorem lcL_map {α : Type} {γ : Kd → D → VEnv → Option VEnv} {ft : VEnv → RT} {fe : VEnv → RE} {k : Kd} {env : VEnv} {g h : α → D} : ∀ (xs : List α), (∀ x ∈ xs, ∃ e1 e2, γ k (g x) env = some e1 ∧ ft e1 = .ok true e2 ∧ ∃ k' e3, (fe e2).shr = .ok k' (h x) e3) → lcL γ ft fe k env (xs.map g) = some (xs.map h)
  | [], _ => rfl
  | x :: xs, hx => by
    obtain ⟨e1, e2, h1, h2, k', e3, h3⟩ := hx x (List.mem_cons_self ..)
    rw [List.map_cons]
    unfold lcL
    rw [h1]
    dsimp only
    rw [h2]
    dsimp only
    rw [h3]
    dsimp only
    rw [lcL_map xs fun y hy => hx y (List.mem_cons_of_mem _ hy)]
    rfl
def pr (q : Int × Int) : D := .tup [.int q.1, .int q.2]
def le (p : Nat) (q : Int × Int) : D := el p q.1 q.2
abbrev Pk (p : Nat) (q : Int × Int) : Prop := PairOk p q.1 q.2
theorem flatL_map {α : Type} {f : α → D} (hf : ∀ x, flat (f x) = true) : ∀ l : List α, flatL (l.map f) = true
  | [] => rfl
  | x :: l => by simp [flatL, hf x, flatL_map hf l]
theorem flat_le {p : Nat} (q : Int × Int) : flat (le p q) = true := flat_el
def shN (f q r : Int × Int) : Int × Int := (q.1 * (f.2 * r.2) + f.1 * r.1 * q.2, q.2 * (f.2 * r.2))
theorem zip_map {α : Type} (f g : α → D) : ∀ (A B : List α), zipD (A.map f) (B.map g) = (A.zip B).map fun q => .tup [f q.1, g q.2]
  | [], _ => rfl
  | _ :: _, [] => rfl
  | a :: A, b :: B => by
    simp only [List.map_cons, List.zip_cons_cons, zipD, List.zipWith_cons_cons]
    congr 1
    exact zip_map f g A B
section
variable {p : Nat} (hp : p ∈ P6) {f : Int × Int} (hf : Pk p f)
include hp hf
theorem sh_p (hp5 : p ∈ P5) {q r : Int × Int} (hq : Pk p q) (hr : Pk p r) : D.int ((rs p q.1 q.2 + rs p f.1 f.2 * rs p r.1 r.2) % p) = le p (shN f q r) := by
  rw [le, el_p hp5, ← Int.add_emod_emod, rs_mul hp5 hf.un hr.un, rs_add hp5 hq.un (un_mul hp hf.un hr.un)]
  rfl
theorem shifted_ok {A B : List (Int × Int)} (hA : ∀ q ∈ A, Pk p q) (hB : ∀ q ∈ B, Pk p q) (hl : A.length ≤ 6) : f_shifted [.int p, .lst (A.map (le p)), le p f, .lst (B.map (le p))] = .fr ((A.zip B).map fun q => le p (shN f q.1 q.2)) := by
  have fA := flatL_map (flat_le (p := p)) A
  have fB := flatL_map (flat_le (p := p)) B
  have ff := flat_le (p := p) f
  have hz : (A.zip B).length ≤ 6 := by rw [List.length_zip]; omega
  have hi : viZip (vaIt (vVar 1) (vaIt (vVar 3) vaNil)) [some (.tnt, .int p), some (.tnt, .lst (A.map (le p))), some (.tnt, le p f), some (.tnt, .lst (B.map (le p))), none, none] = .ok .sh ((A.zip B).map fun q => .tup [le p q.1, le p q.2]) [some (.tnt, .int p), some (.tnt, .lst (A.map (le p))), some (.tnt, le p f), some (.tnt, .lst (B.map (le p))), none, none] := by
    rw [← zip_map (le p) (le p) A B]
    unfold viZip
    simp [Vi.mF, Vi.finF, Vi.startE, Vi.slotsE, Vi.sSeq, Vi.sNx, Vi.sSet, Vi.setMd, Vi.sRet, Vi.sIf, Vi.sExpr, Vi.sPar, Vi.sPar3, Vi.slotOf, Vi.slotP, Vi.sAug, Vi.sAsg, Vi.sApp, Vi.sFor, Vi.vVar, Vi.vC, Vi.vOp, Vi.vOpA, Vi.v1, Vi.v2, Vi.vUn, Vi.vCB, Vi.vCall, Vi.vaNil, Vi.vaCons, Vi.vaIt, Vi.vTup, Vi.vLst, Vi.shs, Vi.vIx, Vi.itemRE, Vi.atD, Vi.itemsOf, L2.atI, L2.ixN, Vi.gI, Vi.gI0, Vi.gAdd, Vi.gMul, Vi.gNeg, Vi.gLen, Vi.gInt, Vi.gAbs, Vi.gList, Vi.gGcd, Vi.gSum, Vi.gIsi, Vi.tyD, Vi.isa, Vi.argsA, Vi.argA, Vi.isSeq, Vi.flatI, Vi.flat, Vi.flatL, Vi.fitM, Vi.ksB, Vi.truth, Vi.vTru, Vi.tAndT, Vi.tOrT, Vi.tNotT, Vi.vAndV, Vi.vOrV, Vi.vNotV, Vi.vIf, Vi.lineN, Vi.γName, Vi.γTup, Vi.γCons, Vi.γNil, Vi.tgMd, Vi.tYesV, fA, fB, okI, isT]
  have hmem : ∀ q ∈ A.zip B, Pk p q.1 ∧ Pk p q.2 := fun q hq => ⟨hA _ (List.of_mem_zip hq).1, hB _ (List.of_mem_zip hq).2⟩
  rcases p6 hp with hp0 | hp5
  · have key : lcL (γTup 2 (γCons (γName 4) (γCons (γName 5) γNil))) tYesV e2_shifted .sh (nestE [some (.tnt, .int p), some (.tnt, .lst (A.map (le p))), some (.tnt, le p f), some (.tnt, .lst (B.map (le p))), none, none] [4, 5]) ((A.zip B).map fun q => .tup [le p q.1, le p q.2]) = some ((A.zip B).map fun q => le p (shN f q.1 q.2)) := by
      refine lcL_map _ fun q hq => ?_
      obtain ⟨h1, h2⟩ := hmem q hq
      have a1 := e_mul hp hf.un h2.un (hf.bn.mono (l := 3000) (by decide)) (hf.bd.mono (by decide)) (h2.bn.mono (by decide)) (h2.bd.mono (by decide))
      have a2 := e_add hp h1.un (un_mul hp hf.un h2.un) (h1.bn.mono (l := 3000) (by decide)) (h1.bd.mono (by decide)) ((hf.bn.mul h2.bn).mono (by decide)) ((hf.bd.mul h2.bd).mono (by decide))
      refine ⟨[some (.tnt, .int p), some (.tnt, .lst (A.map (le p))), some (.tnt, le p f), some (.tnt, .lst (B.map (le p))), some (.sh, le p q.1), some (.sh, le p q.2)], _, rfl, rfl, ?_⟩
      change f_multiply [.int p, le p f, le p q.2] = _ at a1
      change f_add [.int p, le p q.1, el p (f.1 * q.2.1) (f.2 * q.2.2)] = .rt (le p (shN f q.1 q.2)) at a2
      refine ⟨.sh, [some (.tnt, .int p), some (.tnt, .lst (A.map (le p))), some (.tnt, le p f), some (.tnt, .lst (B.map (le p))), some (.sh, le p q.1), some (.sh, le p q.2)], ?_⟩
      unfold e2_shifted
      simp [Vi.mF, Vi.finF, Vi.startE, Vi.slotsE, Vi.sSeq, Vi.sNx, Vi.sSet, Vi.setMd, Vi.sRet, Vi.sIf, Vi.sExpr, Vi.sPar, Vi.sPar3, Vi.slotOf, Vi.slotP, Vi.sAug, Vi.sAsg, Vi.sApp, Vi.sFor, Vi.vVar, Vi.vC, Vi.vOp, Vi.vOpA, Vi.v1, Vi.v2, Vi.vUn, Vi.vCB, Vi.vCall, Vi.vaNil, Vi.vaCons, Vi.vaIt, Vi.vTup, Vi.vLst, Vi.shs, Vi.vIx, Vi.itemRE, Vi.atD, Vi.itemsOf, L2.atI, L2.ixN, Vi.gI, Vi.gI0, Vi.gAdd, Vi.gMul, Vi.gNeg, Vi.gLen, Vi.gInt, Vi.gAbs, Vi.gList, Vi.gGcd, Vi.gSum, Vi.gIsi, Vi.tyD, Vi.isa, Vi.argsA, Vi.argA, Vi.isSeq, Vi.flatI, Vi.flat, Vi.flatL, Vi.fitM, Vi.ksB, Vi.truth, Vi.vTru, Vi.tAndT, Vi.tOrT, Vi.tNotT, Vi.vAndV, Vi.vOrV, Vi.vNotV, Vi.vIf, Vi.lineN, Vi.γName, Vi.γTup, Vi.γCons, Vi.γNil, Vi.tgMd, Vi.tYesV, ff, a1, a2]
    have hn : ¬ (0 < p) := by omega
    have hlc : vLc (viZip (vaIt (vVar 1) (vaIt (vVar 3) vaNil))) (γTup 2 (γCons (γName 4) (γCons (γName 5) γNil))) tYesV e2_shifted [4, 5] [some (.tnt, .int p), some (.tnt, .lst (A.map (le p))), some (.tnt, le p f), some (.tnt, .lst (B.map (le p))), none, none] = .ok .fr (.lst ((A.zip B).map fun q => le p (shN f q.1 q.2))) [some (.tnt, .int p), some (.tnt, .lst (A.map (le p))), some (.tnt, le p f), some (.tnt, .lst (B.map (le p))), none, none] := by
      unfold vLc
      rw [hi]
      dsimp only
      rw [decide_eq_true (by rw [List.length_map]; unfold lineN; omega), key]
    unfold f_shifted m_shifted
    simp [Vi.mF, Vi.finF, Vi.startE, Vi.slotsE, Vi.sSeq, Vi.sNx, Vi.sSet, Vi.setMd, Vi.sRet, Vi.sIf, Vi.sExpr, Vi.sPar, Vi.sPar3, Vi.slotOf, Vi.slotP, Vi.sAug, Vi.sAsg, Vi.sApp, Vi.sFor, Vi.vVar, Vi.vC, Vi.vOp, Vi.vOpA, Vi.v1, Vi.v2, Vi.vUn, Vi.vCB, Vi.vCall, Vi.vaNil, Vi.vaCons, Vi.vaIt, Vi.vTup, Vi.vLst, Vi.shs, Vi.vIx, Vi.itemRE, Vi.atD, Vi.itemsOf, L2.atI, L2.ixN, Vi.gI, Vi.gI0, Vi.gAdd, Vi.gMul, Vi.gNeg, Vi.gLen, Vi.gInt, Vi.gAbs, Vi.gList, Vi.gGcd, Vi.gSum, Vi.gIsi, Vi.tyD, Vi.isa, Vi.argsA, Vi.argA, Vi.isSeq, Vi.flatI, Vi.flat, Vi.flatL, Vi.fitM, Vi.ksB, Vi.truth, Vi.vTru, Vi.tAndT, Vi.tOrT, Vi.tNotT, Vi.vAndV, Vi.vOrV, Vi.vNotV, Vi.vIf, Vi.lineN, Vi.γName, Vi.γTup, Vi.γCons, Vi.γNil, Vi.tgMd, Vi.tYesV, hn, hlc]
  · have key : lcL (γTup 2 (γCons (γName 4) (γCons (γName 5) γNil))) tYesV e1_shifted .sh (nestE [some (.tnt, .int p), some (.tnt, .lst (A.map (le p))), some (.tnt, le p f), some (.tnt, .lst (B.map (le p))), none, none] [4, 5]) ((A.zip B).map fun q => .tup [le p q.1, le p q.2]) = some ((A.zip B).map fun q => le p (shN f q.1 q.2)) := by
      refine lcL_map _ fun q hq => ?_
      obtain ⟨h1, h2⟩ := hmem q hq
      refine ⟨[some (.tnt, .int p), some (.tnt, .lst (A.map (le p))), some (.tnt, le p f), some (.tnt, .lst (B.map (le p))), some (.sh, le p q.1), some (.sh, le p q.2)], _, rfl, rfl, ?_⟩
      refine ⟨.sh, [some (.tnt, .int p), some (.tnt, .lst (A.map (le p))), some (.tnt, le p f), some (.tnt, .lst (B.map (le p))), some (.sh, le p q.1), some (.sh, le p q.2)], ?_⟩
      have e := sh_p hp hf hp5 h1 h2
      obtain ⟨a1, a2, _⟩ := rs_ok hp5 (n := f.1) hf.un
      obtain ⟨b1, b2, _⟩ := rs_ok hp5 (n := q.2.1) h2.un
      have hm := (Bt_small hp5 a1 a2).mulOk (Bt_small hp5 b1 b2) (by decide)
      rw [← e]
      generalize hx : A.map (le p) = X
      generalize hy : B.map (le p) = Y
      unfold e1_shifted le
      rw [el_p hp5, el_p hp5, el_p hp5]
      simp [Vi.mF, Vi.finF, Vi.startE, Vi.slotsE, Vi.sSeq, Vi.sNx, Vi.sSet, Vi.setMd, Vi.sRet, Vi.sIf, Vi.sExpr, Vi.sPar, Vi.sPar3, Vi.slotOf, Vi.slotP, Vi.sAug, Vi.sAsg, Vi.sApp, Vi.sFor, Vi.vVar, Vi.vC, Vi.vOp, Vi.vOpA, Vi.v1, Vi.v2, Vi.vUn, Vi.vCB, Vi.vCall, Vi.vaNil, Vi.vaCons, Vi.vaIt, Vi.vTup, Vi.vLst, Vi.shs, Vi.vIx, Vi.itemRE, Vi.atD, Vi.itemsOf, L2.atI, L2.ixN, Vi.gI, Vi.gI0, Vi.gAdd, Vi.gMul, Vi.gNeg, Vi.gLen, Vi.gInt, Vi.gAbs, Vi.gList, Vi.gGcd, Vi.gSum, Vi.gIsi, Vi.tyD, Vi.isa, Vi.argsA, Vi.argA, Vi.isSeq, Vi.flatI, Vi.flat, Vi.flatL, Vi.fitM, Vi.ksB, Vi.truth, Vi.vTru, Vi.tAndT, Vi.tOrT, Vi.tNotT, Vi.vAndV, Vi.vOrV, Vi.vNotV, Vi.vIf, Vi.lineN, Vi.γName, Vi.γTup, Vi.γCons, Vi.γNil, Vi.tgMd, Vi.tYesV, hm, p_pn hp5]
    have hlc : vLc (viZip (vaIt (vVar 1) (vaIt (vVar 3) vaNil))) (γTup 2 (γCons (γName 4) (γCons (γName 5) γNil))) tYesV e1_shifted [4, 5] [some (.tnt, .int p), some (.tnt, .lst (A.map (le p))), some (.tnt, le p f), some (.tnt, .lst (B.map (le p))), none, none] = .ok .fr (.lst ((A.zip B).map fun q => le p (shN f q.1 q.2))) [some (.tnt, .int p), some (.tnt, .lst (A.map (le p))), some (.tnt, le p f), some (.tnt, .lst (B.map (le p))), none, none] := by
      unfold vLc
      rw [hi]
      dsimp only
      rw [decide_eq_true (by rw [List.length_map]; unfold lineN; omega), key]
    unfold f_shifted m_shifted
    simp [Vi.mF, Vi.finF, Vi.startE, Vi.slotsE, Vi.sSeq, Vi.sNx, Vi.sSet, Vi.setMd, Vi.sRet, Vi.sIf, Vi.sExpr, Vi.sPar, Vi.sPar3, Vi.slotOf, Vi.slotP, Vi.sAug, Vi.sAsg, Vi.sApp, Vi.sFor, Vi.vVar, Vi.vC, Vi.vOp, Vi.vOpA, Vi.v1, Vi.v2, Vi.vUn, Vi.vCB, Vi.vCall, Vi.vaNil, Vi.vaCons, Vi.vaIt, Vi.vTup, Vi.vLst, Vi.shs, Vi.vIx, Vi.itemRE, Vi.atD, Vi.itemsOf, L2.atI, L2.ixN, Vi.gI, Vi.gI0, Vi.gAdd, Vi.gMul, Vi.gNeg, Vi.gLen, Vi.gInt, Vi.gAbs, Vi.gList, Vi.gGcd, Vi.gSum, Vi.gIsi, Vi.tyD, Vi.isa, Vi.argsA, Vi.argA, Vi.isSeq, Vi.flatI, Vi.flat, Vi.flatL, Vi.fitM, Vi.ksB, Vi.truth, Vi.vTru, Vi.tAndT, Vi.tOrT, Vi.tNotT, Vi.vAndV, Vi.vOrV, Vi.vNotV, Vi.vIf, Vi.lineN, Vi.γName, Vi.γTup, Vi.γCons, Vi.γNil, Vi.tgMd, Vi.tYesV, p_pn hp5, hlc]
end
end Ma

set_option maxRecDepth 100000
set_option linter.all false
set_option exponentiation.threshold 100000
namespace Ma
open PySem Vi Mi
/-- one step of a dot product's sum -/
def acN (s : Int × Int) (q r : Int × Int) : Int × Int := (s.1 * (q.2 * r.2) + q.1 * r.1 * s.2, s.2 * (q.2 * r.2))
def acL : List ((Int × Int) × (Int × Int)) → Int × Int → Int × Int
  | [], s => s
  | x :: l, s => acL l (acN s x.1 x.2)
theorem acL_snoc (x : (Int × Int) × (Int × Int)) : ∀ (l : List ((Int × Int) × (Int × Int))) (s : Int × Int), acL (l ++ [x]) s = acN (acL l s) x.1 x.2
  | [], s => rfl
  | y :: l, s => acL_snoc x l _
/-- what holds of a sum of i products -/
structure AcOk (p i : Nat) (s : Int × Int) : Prop where
  bn : Bt (50 * i + 1) s.1
  bd : Bt (50 * i + 1) s.2
  un : s.2 % p ≠ 0
  one : p ≠ 0 → s.2 = 1
theorem ac_ok {p : Nat} (hp : p ∈ P6) {i : Nat} {s q r : Int × Int} (h : AcOk p i s) (hq : Pk p q) (hr : Pk p r) : AcOk p (i + 1) (acN s q r) := by
  have h1 : Bt 40 (q.2 * r.2) := hq.bd.mul hr.bd
  have h2 : Bt 40 (q.1 * r.1) := hq.bn.mul hr.bn
  exact ⟨(((h.bn.mul h1).mono (l := 50 * i + 42) (by omega)).add ((h2.mul h.bd).mono (l := 50 * i + 42) (by omega))).mono (by omega), (h.bd.mul h1).mono (by omega), un_mul hp h.un (un_mul hp hq.un hr.un), fun z => by
    show s.2 * (q.2 * r.2) = 1
    rw [h.one z, hq.one z, hr.one z]
    rfl⟩
theorem acL_ok {p : Nat} (hp : p ∈ P6) : ∀ {l : List ((Int × Int) × (Int × Int))} {i : Nat} {s : Int × Int}, AcOk p i s → (∀ x ∈ l, Pk p x.1 ∧ Pk p x.2) → AcOk p (i + l.length) (acL l s)
  | [], i, s, h, _ => h
  | x :: l, i, s, h, hx => by
    have h1 := ac_ok hp h (hx x (List.mem_cons_self ..)).1 (hx x (List.mem_cons_self ..)).2
    have h2 := acL_ok hp h1 fun y hy => hx y (List.mem_cons_of_mem _ hy)
    rw [List.length_cons, show i + (l.length + 1) = i + 1 + l.length by omega]
    exact h2
theorem ac0 {p : Nat} (hp : p ∈ P6) : AcOk p 0 (0, 1) := ⟨by unfold Bt; decide, Bt_one, un_one hp, fun _ => rfl⟩
/-- by p: the sum of the products of the residues -/
theorem sum_mod {p : Nat} (hp : p ∈ P5) : ∀ (l : List ((Int × Int) × (Int × Int))) (s : Int × Int), s.2 = 1 → (∀ x ∈ l, x.1.2 = 1 ∧ x.2.2 = 1) → ((l.map fun x => rs p x.1.1 x.1.2 * rs p x.2.1 x.2.2).sum + s.1) % p = (acL l s).1 % p
  | [], s, _, _ => by simp [acL]
  | x :: l, s, hs, hx => by
    obtain ⟨h1, h2⟩ := hx x (List.mem_cons_self ..)
    have ih := sum_mod hp l (acN s x.1 x.2) (by show s.2 * (x.1.2 * x.2.2) = 1; rw [hs, h1, h2]; rfl) fun y hy => hx y (List.mem_cons_of_mem _ hy)
    show _ = (acL l (acN s x.1 x.2)).1 % p
    rw [← ih]
    have e : (acN s x.1 x.2).1 = s.1 + x.1.1 * x.2.1 := by
      show s.1 * (x.1.2 * x.2.2) + x.1.1 * x.2.1 * s.2 = _
      rw [hs, h1, h2]
      omega
    rw [e, List.map_cons, List.sum_cons, h1, h2, rs_one hp, rs_one hp]
    have e2 : x.1.1 % p * (x.2.1 % p) % p = x.1.1 * x.2.1 % p := (Int.mul_emod ..).symm
    generalize x.1.1 % p * (x.2.1 % p) = u at *
    generalize x.1.1 * x.2.1 = v at *
    generalize (l.map fun x => rs p x.1.1 x.1.2 * rs p x.2.1 x.2.2).sum = w at *
    rw [show u + w + s.1 = u + (w + s.1) by omega, show w + (s.1 + v) = v + (w + s.1) by omega, Int.add_emod, e2, ← Int.add_emod]
theorem dot_ok {p : Nat} (hp : p ∈ P6) {A B : List (Int × Int)} (hA : ∀ q ∈ A, Pk p q) (hB : ∀ q ∈ B, Pk p q) (hl : A.length ≤ 6) : f_dot [.int p, .lst (A.map (le p)), .lst (B.map (le p))] = .rt (le p (acL (A.zip B) (0, 1))) := by
  have fA := flatL_map (flat_le (p := p)) A
  have fB := flatL_map (flat_le (p := p)) B
  have hz : (A.zip B).length ≤ 6 := by rw [List.length_zip]; omega
  have hmem : ∀ q ∈ A.zip B, Pk p q.1 ∧ Pk p q.2 := fun q hq => ⟨hA _ (List.of_mem_zip hq).1, hB _ (List.of_mem_zip hq).2⟩
  have hi : ∀ t : Slot, viZip (vaIt (vVar 1) (vaIt (vVar 2) vaNil)) [some (.tnt, .int p), some (.tnt, .lst (A.map (le p))), some (.tnt, .lst (B.map (le p))), t, none, none] = .ok .sh ((A.zip B).map fun q => .tup [le p q.1, le p q.2]) [some (.tnt, .int p), some (.tnt, .lst (A.map (le p))), some (.tnt, .lst (B.map (le p))), t, none, none] := fun t => by
    rw [← zip_map (le p) (le p) A B]
    unfold viZip
    simp [Vi.mF, Vi.finF, Vi.startE, Vi.slotsE, Vi.sSeq, Vi.sNx, Vi.sSet, Vi.setMd, Vi.sRet, Vi.sIf, Vi.sExpr, Vi.sPar, Vi.sPar3, Vi.slotOf, Vi.slotP, Vi.sAug, Vi.sAsg, Vi.sApp, Vi.sFor, Vi.vVar, Vi.vC, Vi.vOp, Vi.vOpA, Vi.v1, Vi.v2, Vi.vUn, Vi.vCB, Vi.vCall, Vi.vaNil, Vi.vaCons, Vi.vaIt, Vi.vTup, Vi.vLst, Vi.shs, Vi.vIx, Vi.itemRE, Vi.atD, Vi.itemsOf, L2.atI, L2.ixN, Vi.gI, Vi.gI0, Vi.gAdd, Vi.gMul, Vi.gNeg, Vi.gLen, Vi.gInt, Vi.gAbs, Vi.gList, Vi.gGcd, Vi.gSum, Vi.gIsi, Vi.tyD, Vi.isa, Vi.argsA, Vi.argA, Vi.isSeq, Vi.flatI, Vi.flat, Vi.flatL, Vi.fitM, Vi.ksB, Vi.truth, Vi.vTru, Vi.tAndT, Vi.tOrT, Vi.tNotT, Vi.vAndV, Vi.vOrV, Vi.vNotV, Vi.vIf, Vi.lineN, Vi.γName, Vi.γTup, Vi.γCons, Vi.γNil, Vi.tgMd, Vi.tYesV, fA, fB, okI, isT]
  rcases p6 hp with hp0 | hp5
  · have hn : ¬ (0 < p) := by omega
    obtain ⟨e', g1, s4, s5, g2⟩ := forL_inv (γ := γTup 2 (γCons (γName 4) (γCons (γName 5) γNil))) (f := b2_dot) (k := .sh) (fun i e => ∃ s4 s5, e = [some (.tnt, .int p), some (.tnt, .lst (A.map (le p))), some (.tnt, .lst (B.map (le p))), some (.sh, le p (acL ((A.zip B).take i) (0, 1))), s4, s5]) ((A.zip B).map fun q => .tup [le p q.1, le p q.2]) 0 [some (.tnt, .int p), some (.tnt, .lst (A.map (le p))), some (.tnt, .lst (B.map (le p))), some (.sh, le p (0, 1)), none, none] ⟨none, none, rfl⟩ (fun j x e hj ⟨s4, s5, h⟩ => by
      rw [List.getElem?_map] at hj
      simp only [Option.map_eq_some_iff] at hj
      obtain ⟨q, hq, rfl⟩ := hj
      subst h
      obtain ⟨h1, h2⟩ := hmem q (List.mem_of_getElem? hq)
      have hjl := (List.getElem?_eq_some_iff.mp hq).1
      have hac := acL_ok hp (l := (A.zip B).take (0 + j)) (ac0 hp) fun y hy => hmem y (List.mem_of_mem_take hy)
      have hlen : (0 + ((A.zip B).take (0 + j)).length) ≤ 6 := by rw [List.length_take]; omega
      have htake : acL ((A.zip B).take (0 + j + 1)) (0, 1) = acN (acL ((A.zip B).take (0 + j)) (0, 1)) q.1 q.2 := by
        rw [List.take_add_one, Nat.zero_add, hq]
        exact acL_snoc q _ _
      generalize acL ((A.zip B).take (0 + j)) (0, 1) = s at *
      have a1 := e_mul hp h1.un h2.un (h1.bn.mono (l := 3000) (by decide)) (h1.bd.mono (by decide)) (h2.bn.mono (by decide)) (h2.bd.mono (by decide))
      have a2 := e_add hp hac.un (un_mul hp h1.un h2.un) (hac.bn.mono (l := 3000) (by omega)) (hac.bd.mono (by omega)) ((h1.bn.mul h2.bn).mono (by decide)) ((h1.bd.mul h2.bd).mono (by decide))
      change f_multiply [.int p, le p q.1, le p q.2] = _ at a1
      change f_add [.int p, le p s, el p (q.1.1 * q.2.1) (q.1.2 * q.2.2)] = .rt (le p (acN s q.1 q.2)) at a2
      refine ⟨[some (.tnt, .int p), some (.tnt, .lst (A.map (le p))), some (.tnt, .lst (B.map (le p))), some (.sh, le p s), some (.sh, le p q.1), some (.sh, le p q.2)], rfl, ?_⟩
      refine ⟨[some (.tnt, .int p), some (.tnt, .lst (A.map (le p))), some (.tnt, .lst (B.map (le p))), some (.sh, le p (acN s q.1 q.2)), some (.sh, le p q.1), some (.sh, le p q.2)], ?_, _, _, by rw [htake]⟩
      generalize A.map (le p) = X
      generalize B.map (le p) = Y
      unfold b2_dot
      simp [Vi.mF, Vi.finF, Vi.startE, Vi.slotsE, Vi.sSeq, Vi.sNx, Vi.sSet, Vi.setMd, Vi.sRet, Vi.sIf, Vi.sExpr, Vi.sPar, Vi.sPar3, Vi.slotOf, Vi.slotP, Vi.sAug, Vi.sAsg, Vi.sApp, Vi.sFor, Vi.vVar, Vi.vC, Vi.vOp, Vi.vOpA, Vi.v1, Vi.v2, Vi.vUn, Vi.vCB, Vi.vCall, Vi.vaNil, Vi.vaCons, Vi.vaIt, Vi.vTup, Vi.vLst, Vi.shs, Vi.vIx, Vi.itemRE, Vi.atD, Vi.itemsOf, L2.atI, L2.ixN, Vi.gI, Vi.gI0, Vi.gAdd, Vi.gMul, Vi.gNeg, Vi.gLen, Vi.gInt, Vi.gAbs, Vi.gList, Vi.gGcd, Vi.gSum, Vi.gIsi, Vi.tyD, Vi.isa, Vi.argsA, Vi.argA, Vi.isSeq, Vi.flatI, Vi.flat, Vi.flatL, Vi.fitM, Vi.ksB, Vi.truth, Vi.vTru, Vi.tAndT, Vi.tOrT, Vi.tNotT, Vi.vAndV, Vi.vOrV, Vi.vNotV, Vi.vIf, Vi.lineN, Vi.γName, Vi.γTup, Vi.γCons, Vi.γNil, Vi.tgMd, Vi.tYesV, a1, a2])
    subst g2
    rw [List.length_map, Nat.zero_add, List.take_length] at g1
    have e0 : startE 6 [true, true, true] [.int p, .lst (A.map (le p)), .lst (B.map (le p))] = [some (.tnt, .int p), some (.tnt, .lst (A.map (le p))), some (.tnt, .lst (B.map (le p))), none, none, none] := rfl
    have e1 : sSet 3 (vCall [true, true] f_number_of (vaCons true (vVar 0) (vaCons true (vC (.int 0)) vaNil))) [some (.tnt, .int p), some (.tnt, .lst (A.map (le p))), some (.tnt, .lst (B.map (le p))), none, none, none] = .nx [some (.tnt, .int p), some (.tnt, .lst (A.map (le p))), some (.tnt, .lst (B.map (le p))), some (.sh, le p (0, 1)), none, none] := by
      have := e_of hp (n := 0)
      change _ = FR.rt (le p (0, 1)) at this
      simp [Vi.mF, Vi.finF, Vi.startE, Vi.slotsE, Vi.sSeq, Vi.sNx, Vi.sSet, Vi.setMd, Vi.sRet, Vi.sIf, Vi.sExpr, Vi.sPar, Vi.sPar3, Vi.slotOf, Vi.slotP, Vi.sAug, Vi.sAsg, Vi.sApp, Vi.sFor, Vi.vVar, Vi.vC, Vi.vOp, Vi.vOpA, Vi.v1, Vi.v2, Vi.vUn, Vi.vCB, Vi.vCall, Vi.vaNil, Vi.vaCons, Vi.vaIt, Vi.vTup, Vi.vLst, Vi.shs, Vi.vIx, Vi.itemRE, Vi.atD, Vi.itemsOf, L2.atI, L2.ixN, Vi.gI, Vi.gI0, Vi.gAdd, Vi.gMul, Vi.gNeg, Vi.gLen, Vi.gInt, Vi.gAbs, Vi.gList, Vi.gGcd, Vi.gSum, Vi.gIsi, Vi.tyD, Vi.isa, Vi.argsA, Vi.argA, Vi.isSeq, Vi.flatI, Vi.flat, Vi.flatL, Vi.fitM, Vi.ksB, Vi.truth, Vi.vTru, Vi.tAndT, Vi.tOrT, Vi.tNotT, Vi.vAndV, Vi.vOrV, Vi.vNotV, Vi.vIf, Vi.lineN, Vi.γName, Vi.γTup, Vi.γCons, Vi.γNil, Vi.tgMd, Vi.tYesV, this]
    have e2 : sIf (vTru (vOp gGt (vVar 0) (vC (.int 0)))) (sRet (vOp gMod (vCB gSum (vaCons true (vLc (viZip (vaIt (vVar 1) (vaIt (vVar 2) vaNil))) (γTup 2 (γCons (γName 4) (γCons (γName 5) γNil))) tYesV e1_dot [4, 5]) vaNil)) (vVar 0))) sNx [some (.tnt, .int p), some (.tnt, .lst (A.map (le p))), some (.tnt, .lst (B.map (le p))), none, none, none] = .nx [some (.tnt, .int p), some (.tnt, .lst (A.map (le p))), some (.tnt, .lst (B.map (le p))), none, none, none] := by
      simp [Vi.mF, Vi.finF, Vi.startE, Vi.slotsE, Vi.sSeq, Vi.sNx, Vi.sSet, Vi.setMd, Vi.sRet, Vi.sIf, Vi.sExpr, Vi.sPar, Vi.sPar3, Vi.slotOf, Vi.slotP, Vi.sAug, Vi.sAsg, Vi.sApp, Vi.sFor, Vi.vVar, Vi.vC, Vi.vOp, Vi.vOpA, Vi.v1, Vi.v2, Vi.vUn, Vi.vCB, Vi.vCall, Vi.vaNil, Vi.vaCons, Vi.vaIt, Vi.vTup, Vi.vLst, Vi.shs, Vi.vIx, Vi.itemRE, Vi.atD, Vi.itemsOf, L2.atI, L2.ixN, Vi.gI, Vi.gI0, Vi.gAdd, Vi.gMul, Vi.gNeg, Vi.gLen, Vi.gInt, Vi.gAbs, Vi.gList, Vi.gGcd, Vi.gSum, Vi.gIsi, Vi.tyD, Vi.isa, Vi.argsA, Vi.argA, Vi.isSeq, Vi.flatI, Vi.flat, Vi.flatL, Vi.fitM, Vi.ksB, Vi.truth, Vi.vTru, Vi.tAndT, Vi.tOrT, Vi.tNotT, Vi.vAndV, Vi.vOrV, Vi.vNotV, Vi.vIf, Vi.lineN, Vi.γName, Vi.γTup, Vi.γCons, Vi.γNil, Vi.tgMd, Vi.tYesV, hn]
    unfold f_dot m_dot
    rw [mF, e0, sSeq_ap, e2, SRes.bind_nx, sSeq_ap, e1, SRes.bind_nx, sSeq_ap, sFor_ok (hi _), g1, SRes.bind_nx]
    simp [Vi.mF, Vi.finF, Vi.startE, Vi.slotsE, Vi.sSeq, Vi.sNx, Vi.sSet, Vi.setMd, Vi.sRet, Vi.sIf, Vi.sExpr, Vi.sPar, Vi.sPar3, Vi.slotOf, Vi.slotP, Vi.sAug, Vi.sAsg, Vi.sApp, Vi.sFor, Vi.vVar, Vi.vC, Vi.vOp, Vi.vOpA, Vi.v1, Vi.v2, Vi.vUn, Vi.vCB, Vi.vCall, Vi.vaNil, Vi.vaCons, Vi.vaIt, Vi.vTup, Vi.vLst, Vi.shs, Vi.vIx, Vi.itemRE, Vi.atD, Vi.itemsOf, L2.atI, L2.ixN, Vi.gI, Vi.gI0, Vi.gAdd, Vi.gMul, Vi.gNeg, Vi.gLen, Vi.gInt, Vi.gAbs, Vi.gList, Vi.gGcd, Vi.gSum, Vi.gIsi, Vi.tyD, Vi.isa, Vi.argsA, Vi.argA, Vi.isSeq, Vi.flatI, Vi.flat, Vi.flatL, Vi.fitM, Vi.ksB, Vi.truth, Vi.vTru, Vi.tAndT, Vi.tOrT, Vi.tNotT, Vi.vAndV, Vi.vOrV, Vi.vNotV, Vi.vIf, Vi.lineN, Vi.γName, Vi.γTup, Vi.γCons, Vi.γNil, Vi.tgMd, Vi.tYesV]
  · have key : lcL (γTup 2 (γCons (γName 4) (γCons (γName 5) γNil))) tYesV e1_dot .sh (nestE [some (.tnt, .int p), some (.tnt, .lst (A.map (le p))), some (.tnt, .lst (B.map (le p))), none, none, none] [4, 5]) ((A.zip B).map fun q => .tup [le p q.1, le p q.2]) = some ((A.zip B).map fun q => D.int (rs p q.1.1 q.1.2 * rs p q.2.1 q.2.2)) := by
      refine lcL_map _ fun q hq => ?_
      obtain ⟨h1, h2⟩ := hmem q hq
      refine ⟨[some (.tnt, .int p), some (.tnt, .lst (A.map (le p))), some (.tnt, .lst (B.map (le p))), none, some (.sh, le p q.1), some (.sh, le p q.2)], _, rfl, rfl, ?_⟩
      refine ⟨.sh, [some (.tnt, .int p), some (.tnt, .lst (A.map (le p))), some (.tnt, .lst (B.map (le p))), none, some (.sh, le p q.1), some (.sh, le p q.2)], ?_⟩
      obtain ⟨a1, a2, _⟩ := rs_ok hp5 (n := q.1.1) h1.un
      obtain ⟨b1, b2, _⟩ := rs_ok hp5 (n := q.2.1) h2.un
      have hm := (Bt_small hp5 a1 a2).mulOk (Bt_small hp5 b1 b2) (by decide)
      generalize A.map (le p) = X
      generalize B.map (le p) = Y
      unfold e1_dot le
      rw [el_p hp5, el_p hp5]
      simp [Vi.mF, Vi.finF, Vi.startE, Vi.slotsE, Vi.sSeq, Vi.sNx, Vi.sSet, Vi.setMd, Vi.sRet, Vi.sIf, Vi.sExpr, Vi.sPar, Vi.sPar3, Vi.slotOf, Vi.slotP, Vi.sAug, Vi.sAsg, Vi.sApp, Vi.sFor, Vi.vVar, Vi.vC, Vi.vOp, Vi.vOpA, Vi.v1, Vi.v2, Vi.vUn, Vi.vCB, Vi.vCall, Vi.vaNil, Vi.vaCons, Vi.vaIt, Vi.vTup, Vi.vLst, Vi.shs, Vi.vIx, Vi.itemRE, Vi.atD, Vi.itemsOf, L2.atI, L2.ixN, Vi.gI, Vi.gI0, Vi.gAdd, Vi.gMul, Vi.gNeg, Vi.gLen, Vi.gInt, Vi.gAbs, Vi.gList, Vi.gGcd, Vi.gSum, Vi.gIsi, Vi.tyD, Vi.isa, Vi.argsA, Vi.argA, Vi.isSeq, Vi.flatI, Vi.flat, Vi.flatL, Vi.fitM, Vi.ksB, Vi.truth, Vi.vTru, Vi.tAndT, Vi.tOrT, Vi.tNotT, Vi.vAndV, Vi.vOrV, Vi.vNotV, Vi.vIf, Vi.lineN, Vi.γName, Vi.γTup, Vi.γCons, Vi.γNil, Vi.tgMd, Vi.tYesV, hm]
    have hlc : vLc (viZip (vaIt (vVar 1) (vaIt (vVar 2) vaNil))) (γTup 2 (γCons (γName 4) (γCons (γName 5) γNil))) tYesV e1_dot [4, 5] [some (.tnt, .int p), some (.tnt, .lst (A.map (le p))), some (.tnt, .lst (B.map (le p))), none, none, none] = .ok .fr (.lst (((A.zip B).map fun q => rs p q.1.1 q.1.2 * rs p q.2.1 q.2.2).map D.int)) [some (.tnt, .int p), some (.tnt, .lst (A.map (le p))), some (.tnt, .lst (B.map (le p))), none, none, none] := by
      unfold vLc
      rw [hi]
      dsimp only
      rw [decide_eq_true (by rw [List.length_map]; unfold lineN; omega), key, List.map_map]
      rfl
    have hsum := sum_mod hp5 (A.zip B) (0, 1) rfl fun x hx => ⟨(hmem x hx).1.one (p_nz hp5), (hmem x hx).2.one (p_nz hp5)⟩
    rw [show ((0 : Int), (1 : Int)).1 = 0 from rfl, Int.add_zero] at hsum
    have hone : (acL (A.zip B) (0, 1)).2 = 1 := (acL_ok hp (ac0 hp) hmem).one (p_nz hp5)
    have hle : le p (acL (A.zip B) (0, 1)) = .int (((A.zip B).map fun q => rs p q.1.1 q.1.2 * rs p q.2.1 q.2.2).sum % p) := by
      unfold le
      rw [el_p hp5, hone, rs_one hp5, hsum]
    rw [hle]
    have hints := ints?_map ((A.zip B).map fun q => rs p q.1.1 q.1.2 * rs p q.2.1 q.2.2)
    generalize ((A.zip B).map fun q => rs p q.1.1 q.1.2 * rs p q.2.1 q.2.2) = L at *
    generalize A.map (le p) = X at *
    generalize B.map (le p) = Y at *
    unfold f_dot m_dot
    simp [Vi.mF, Vi.finF, Vi.startE, Vi.slotsE, Vi.sSeq, Vi.sNx, Vi.sSet, Vi.setMd, Vi.sRet, Vi.sIf, Vi.sExpr, Vi.sPar, Vi.sPar3, Vi.slotOf, Vi.slotP, Vi.sAug, Vi.sAsg, Vi.sApp, Vi.sFor, Vi.vVar, Vi.vC, Vi.vOp, Vi.vOpA, Vi.v1, Vi.v2, Vi.vUn, Vi.vCB, Vi.vCall, Vi.vaNil, Vi.vaCons, Vi.vaIt, Vi.vTup, Vi.vLst, Vi.shs, Vi.vIx, Vi.itemRE, Vi.atD, Vi.itemsOf, L2.atI, L2.ixN, Vi.gI, Vi.gI0, Vi.gAdd, Vi.gMul, Vi.gNeg, Vi.gLen, Vi.gInt, Vi.gAbs, Vi.gList, Vi.gGcd, Vi.gSum, Vi.gIsi, Vi.tyD, Vi.isa, Vi.argsA, Vi.argA, Vi.isSeq, Vi.flatI, Vi.flat, Vi.flatL, Vi.fitM, Vi.ksB, Vi.truth, Vi.vTru, Vi.tAndT, Vi.tOrT, Vi.tNotT, Vi.vAndV, Vi.vOrV, Vi.vNotV, Vi.vIf, Vi.lineN, Vi.γName, Vi.γTup, Vi.γCons, Vi.γNil, Vi.tgMd, Vi.tYesV, p_pn hp5, hlc, hints]
end Ma

set_option maxRecDepth 100000
set_option linter.all false
set_option exponentiation.threshold 100000
namespace Ma
open PySem Vi Mi
theorem flat_pr (q : Int × Int) : flat (pr q) = true := rfl
theorem flatN_le {p : Nat} (hp : p ∈ P6) (q : Int × Int) : flatN (le p q) = true := by
  rcases p6 hp with rfl | hp5
  · rfl
  · unfold le
    rw [el_p hp5]
    rfl
theorem allN_le {p : Nat} (hp : p ∈ P6) (A : List (Int × Int)) : (A.map (le p)).all flatN = true := by
  rw [List.all_map]
  exact List.all_eq_true.mpr fun q _ => flatN_le hp q
theorem atI_get {α : Type} {f : α → D} {A : List α} {i : Nat} {q : α} (h : A[i]? = some q) : L2.atI (A.map f) (0 + (i : Int)) = some (f q) := by
  have hi := (List.getElem?_eq_some_iff.mp h).1
  unfold L2.atI L2.ixN
  rw [if_pos (by omega), if_pos (by rw [List.length_map]; omega)]
  simp [h]
section
variable {p : Nat} (hp : p ∈ P6)
include hp
theorem num_le {n d : Int} (hd : d % p ≠ 0) (h : Bt 8000 d) : f__law_number [.int p, .int n, .int d] = .rt (le p (n, d)) := e_num hp hd h
theorem same_le {q : Int × Int} : f__law_same [.int p, le p q, le p q] = .rt (.bl true) := e_same hp
variable {A B : List (Int × Int)} {f : Int × Int} (hA : ∀ q ∈ A, Pk p q) (hB : ∀ q ∈ B, Pk p q) (hf : Pk p f) (hl : A.length ≤ 6)
/-- the frame -/
def rw_ (p : Nat) (A B : List (Int × Int)) (f : Int × Int) (s4 s5 s6 s7 s8 s9 s10 s11 s12 s13 s14 : Slot) : VEnv := [some (.tnt, .int p), some (.tnt, .lst (A.map pr)), some (.tnt, .lst (B.map pr)), some (.tnt, pr f), s4, s5, s6, s7, s8, s9, s10, s11, s12, s13, s14]
include hA hl in
theorem rows1 : sSet 4 (vLc (viSeq (vVar 1)) (γTup 2 (γCons (γName 9) (γCons (γName 10) γNil))) tYesV e1__law_rows [9, 10]) (rw_ p A B f none none none none none none none none none none none) = .nx (rw_ p A B f (some (.own, .lst (A.map (le p)))) none none none none none none none none none none) := by
  have hi : viSeq (vVar 1) (rw_ p A B f none none none none none none none none none none none) = .ok .tnt (A.map pr) (rw_ p A B f none none none none none none none none none none none) := by
    unfold viSeq rw_
    simp [Vi.mF, Vi.finF, Vi.startE, Vi.slotsE, Vi.sSeq, Vi.sNx, Vi.sSet, Vi.setMd, Vi.sRet, Vi.sIf, Vi.sExpr, Vi.sPar, Vi.sPar3, Vi.slotOf, Vi.slotP, Vi.sAug, Vi.sAsg, Vi.sApp, Vi.sFor, Vi.vVar, Vi.vC, Vi.vOp, Vi.vOpA, Vi.v1, Vi.v2, Vi.vUn, Vi.vCB, Vi.vCall, Vi.vaNil, Vi.vaCons, Vi.vaIt, Vi.vTup, Vi.vLst, Vi.shs, Vi.vIx, Vi.itemRE, Vi.atD, Vi.itemsOf, L2.atI, L2.ixN, Vi.gI, Vi.gI0, Vi.gAdd, Vi.gMul, Vi.gNeg, Vi.gLen, Vi.gInt, Vi.gAbs, Vi.gList, Vi.gGcd, Vi.gSum, Vi.gIsi, Vi.tyD, Vi.isa, Vi.argsA, Vi.argA, Vi.isSeq, Vi.flatI, Vi.flat, Vi.flatL, Vi.fitM, Vi.ksB, Vi.truth, Vi.vTru, Vi.tAndT, Vi.tOrT, Vi.tNotT, Vi.vAndV, Vi.vOrV, Vi.vNotV, Vi.vIf, Vi.lineN, Vi.γName, Vi.γTup, Vi.γCons, Vi.γNil, Vi.tgMd, Vi.tYesV]
  have key : lcL (γTup 2 (γCons (γName 9) (γCons (γName 10) γNil))) tYesV e1__law_rows .tnt (nestE (rw_ p A B f none none none none none none none none none none none) [9, 10]) (A.map pr) = some (A.map (le p)) := by
    refine lcL_map _ fun q hq => ?_
    have hn := num_le hp (n := q.1) (hA q hq).un ((hA q hq).bd.mono (by decide))
    refine ⟨rw_ p A B f none none none none none (some (.sh, .int q.1)) (some (.sh, .int q.2)) none none none none, _, rfl, rfl, .sh, rw_ p A B f none none none none none (some (.sh, .int q.1)) (some (.sh, .int q.2)) none none none none, ?_⟩
    unfold e1__law_rows rw_
    simp [Vi.mF, Vi.finF, Vi.startE, Vi.slotsE, Vi.sSeq, Vi.sNx, Vi.sSet, Vi.setMd, Vi.sRet, Vi.sIf, Vi.sExpr, Vi.sPar, Vi.sPar3, Vi.slotOf, Vi.slotP, Vi.sAug, Vi.sAsg, Vi.sApp, Vi.sFor, Vi.vVar, Vi.vC, Vi.vOp, Vi.vOpA, Vi.v1, Vi.v2, Vi.vUn, Vi.vCB, Vi.vCall, Vi.vaNil, Vi.vaCons, Vi.vaIt, Vi.vTup, Vi.vLst, Vi.shs, Vi.vIx, Vi.itemRE, Vi.atD, Vi.itemsOf, L2.atI, L2.ixN, Vi.gI, Vi.gI0, Vi.gAdd, Vi.gMul, Vi.gNeg, Vi.gLen, Vi.gInt, Vi.gAbs, Vi.gList, Vi.gGcd, Vi.gSum, Vi.gIsi, Vi.tyD, Vi.isa, Vi.argsA, Vi.argA, Vi.isSeq, Vi.flatI, Vi.flat, Vi.flatL, Vi.fitM, Vi.ksB, Vi.truth, Vi.vTru, Vi.tAndT, Vi.tOrT, Vi.tNotT, Vi.vAndV, Vi.vOrV, Vi.vNotV, Vi.vIf, Vi.lineN, Vi.γName, Vi.γTup, Vi.γCons, Vi.γNil, Vi.tgMd, Vi.tYesV, hn]
  unfold sSet vLc
  rw [hi]
  dsimp only
  rw [decide_eq_true (by rw [List.length_map]; unfold lineN; omega), key]
  rfl
include hB in
theorem rows2 (hl2 : B.length ≤ 6) : sSet 5 (vLc (viSeq (vVar 2)) (γTup 2 (γCons (γName 9) (γCons (γName 10) γNil))) tYesV e2__law_rows [9, 10]) (rw_ p A B f (some (.own, .lst (A.map (le p)))) none none none none none none none none none none) = .nx (rw_ p A B f (some (.own, .lst (A.map (le p)))) (some (.own, .lst (B.map (le p)))) none none none none none none none none none) := by
  have hi : viSeq (vVar 2) (rw_ p A B f (some (.own, .lst (A.map (le p)))) none none none none none none none none none none) = .ok .tnt (B.map pr) (rw_ p A B f (some (.own, .lst (A.map (le p)))) none none none none none none none none none none) := by
    unfold viSeq rw_
    simp [Vi.mF, Vi.finF, Vi.startE, Vi.slotsE, Vi.sSeq, Vi.sNx, Vi.sSet, Vi.setMd, Vi.sRet, Vi.sIf, Vi.sExpr, Vi.sPar, Vi.sPar3, Vi.slotOf, Vi.slotP, Vi.sAug, Vi.sAsg, Vi.sApp, Vi.sFor, Vi.vVar, Vi.vC, Vi.vOp, Vi.vOpA, Vi.v1, Vi.v2, Vi.vUn, Vi.vCB, Vi.vCall, Vi.vaNil, Vi.vaCons, Vi.vaIt, Vi.vTup, Vi.vLst, Vi.shs, Vi.vIx, Vi.itemRE, Vi.atD, Vi.itemsOf, L2.atI, L2.ixN, Vi.gI, Vi.gI0, Vi.gAdd, Vi.gMul, Vi.gNeg, Vi.gLen, Vi.gInt, Vi.gAbs, Vi.gList, Vi.gGcd, Vi.gSum, Vi.gIsi, Vi.tyD, Vi.isa, Vi.argsA, Vi.argA, Vi.isSeq, Vi.flatI, Vi.flat, Vi.flatL, Vi.fitM, Vi.ksB, Vi.truth, Vi.vTru, Vi.tAndT, Vi.tOrT, Vi.tNotT, Vi.vAndV, Vi.vOrV, Vi.vNotV, Vi.vIf, Vi.lineN, Vi.γName, Vi.γTup, Vi.γCons, Vi.γNil, Vi.tgMd, Vi.tYesV]
  have key : lcL (γTup 2 (γCons (γName 9) (γCons (γName 10) γNil))) tYesV e2__law_rows .tnt (nestE (rw_ p A B f (some (.own, .lst (A.map (le p)))) none none none none none none none none none none) [9, 10]) (B.map pr) = some (B.map (le p)) := by
    refine lcL_map _ fun q hq => ?_
    have hn := num_le hp (n := q.1) (hB q hq).un ((hB q hq).bd.mono (by decide))
    refine ⟨rw_ p A B f (some (.tnt, .lst (A.map (le p)))) none none none none (some (.sh, .int q.1)) (some (.sh, .int q.2)) none none none none, _, rfl, rfl, .sh, rw_ p A B f (some (.tnt, .lst (A.map (le p)))) none none none none (some (.sh, .int q.1)) (some (.sh, .int q.2)) none none none none, ?_⟩
    unfold e2__law_rows rw_
    simp [Vi.mF, Vi.finF, Vi.startE, Vi.slotsE, Vi.sSeq, Vi.sNx, Vi.sSet, Vi.setMd, Vi.sRet, Vi.sIf, Vi.sExpr, Vi.sPar, Vi.sPar3, Vi.slotOf, Vi.slotP, Vi.sAug, Vi.sAsg, Vi.sApp, Vi.sFor, Vi.vVar, Vi.vC, Vi.vOp, Vi.vOpA, Vi.v1, Vi.v2, Vi.vUn, Vi.vCB, Vi.vCall, Vi.vaNil, Vi.vaCons, Vi.vaIt, Vi.vTup, Vi.vLst, Vi.shs, Vi.vIx, Vi.itemRE, Vi.atD, Vi.itemsOf, L2.atI, L2.ixN, Vi.gI, Vi.gI0, Vi.gAdd, Vi.gMul, Vi.gNeg, Vi.gLen, Vi.gInt, Vi.gAbs, Vi.gList, Vi.gGcd, Vi.gSum, Vi.gIsi, Vi.tyD, Vi.isa, Vi.argsA, Vi.argA, Vi.isSeq, Vi.flatI, Vi.flat, Vi.flatL, Vi.fitM, Vi.ksB, Vi.truth, Vi.vTru, Vi.tAndT, Vi.tOrT, Vi.tNotT, Vi.vAndV, Vi.vOrV, Vi.vNotV, Vi.vIf, Vi.lineN, Vi.γName, Vi.γTup, Vi.γCons, Vi.γNil, Vi.tgMd, Vi.tYesV, hn]
  unfold sSet vLc
  rw [hi]
  dsimp only
  rw [decide_eq_true (by rw [List.length_map]; unfold lineN; omega), key]
  rfl
include hf in
theorem rows_turn {M : List D} {n d : Int} {j : Nat} {s12 s13 s14 : Slot} {q r : Int × Int} (hq : A[j]? = some q) (hr : B[j]? = some r) (hPq : Pk p q) (hPr : Pk p r) (hM : L2.atI M (0 + (j : Int)) = some (le p (shN f q r))) (hn : Bt 400 n) (hd : Bt 400 d) (R O : List D) (KE : D) (SC : D) :
    ∃ s12' s13' s14', b3__law_rows (rw_ p A B f (some (.sh, .lst R)) (some (.sh, .lst O)) (some (.sh, SC)) (some (.own, KE)) (some (.own, .lst M)) (some (.sh, .int n)) (some (.sh, .int d)) (some (.sh, .int (0 + j))) s12 s13 s14) =
      .nx (rw_ p A B f (some (.sh, .lst R)) (some (.sh, .lst O)) (some (.sh, SC)) (some (.own, KE)) (some (.own, .lst M)) (some (.sh, .int (acN (n, d) q r).1)) (some (.sh, .int (acN (n, d) q r).2)) (some (.sh, .int (0 + j))) s12' s13' s14') := by
  have a1 := atI_get (f := pr) hq
  have a2 := atI_get (f := pr) hr
  have hx := num_le hp (n := q.1 * (f.2 * r.2) + f.1 * r.1 * q.2) (d := q.2 * (f.2 * r.2)) (un_mul hp hPq.un (un_mul hp hf.un hPr.un)) ((hPq.bd.mul (hf.bd.mul hPr.bd)).mono (by decide))
  rw [← Int.mul_assoc, ← Int.mul_assoc] at hx
  have hs := same_le hp (q := shN f q r)
  have es : shN f q r = (q.1 * f.2 * r.2 + f.1 * r.1 * q.2, q.2 * f.2 * r.2) := by show (q.1 * (f.2 * r.2) + f.1 * r.1 * q.2, q.2 * (f.2 * r.2)) = _; rw [← Int.mul_assoc q.1, ← Int.mul_assoc q.2]
  rw [← es] at hx
  have eN : acN (n, d) q r = (n * q.2 * r.2 + q.1 * r.1 * d, d * q.2 * r.2) := by show (n * (q.2 * r.2) + q.1 * r.1 * d, d * (q.2 * r.2)) = _; rw [← Int.mul_assoc n, ← Int.mul_assoc d]
  rw [eN]
  have k1 := hPq.bn.mulOk hf.bd (by decide)
  have k2 := (hPq.bn.mul hf.bd).mulOk hPr.bd (by decide)
  have k3 := hf.bn.mulOk hPr.bn (by decide)
  have k4 := (hf.bn.mul hPr.bn).mulOk hPq.bd (by decide)
  have k5 := hPq.bd.mulOk hf.bd (by decide)
  have k6 := (hPq.bd.mul hf.bd).mulOk hPr.bd (by decide)
  have k7 := hn.mulOk hPq.bd (by decide)
  have k8 := (hn.mul hPq.bd).mulOk hPr.bd (by decide)
  have k9 := hPq.bn.mulOk hPr.bn (by decide)
  have k10 := (hPq.bn.mul hPr.bn).mulOk hd (by decide)
  have k11 := hd.mulOk hPq.bd (by decide)
  have k12 := (hd.mul hPq.bd).mulOk hPr.bd (by decide)
  refine ⟨some (.sh, pr q), some (.sh, pr r), some (.sh, pr (q.1 * f.2 * r.2 + f.1 * r.1 * q.2, q.2 * f.2 * r.2)), ?_⟩
  generalize hF : A.map pr = F at *
  generalize hS : B.map pr = S at *
  generalize le p (shN f q r) = Z at *
  unfold rw_ b3__law_rows
  rw [hF, hS]
  have i0 : L2.atI [D.int q.1, D.int q.2] 0 = some (.int q.1) := rfl
  have i1 : L2.atI [D.int q.1, D.int q.2] 1 = some (.int q.2) := rfl
  have i2 : L2.atI [D.int r.1, D.int r.2] 0 = some (.int r.1) := rfl
  have i3 : L2.atI [D.int r.1, D.int r.2] 1 = some (.int r.2) := rfl
  have i4 : L2.atI [D.int f.1, D.int f.2] 0 = some (.int f.1) := rfl
  have i5 : L2.atI [D.int f.1, D.int f.2] 1 = some (.int f.2) := rfl
  have i6 : ∀ x y : Int, L2.atI [D.int x, D.int y] 0 = some (.int x) := fun _ _ => rfl
  have i7 : ∀ x y : Int, L2.atI [D.int x, D.int y] 1 = some (.int y) := fun _ _ => rfl
  rw [Int.zero_add] at *
  simp [Vi.mF, Vi.finF, Vi.startE, Vi.slotsE, Vi.sSeq, Vi.sNx, Vi.sSet, Vi.setMd, Vi.sRet, Vi.sIf, Vi.sExpr, Vi.sPar, Vi.sPar3, Vi.slotOf, Vi.slotP, Vi.sAug, Vi.sAsg, Vi.sApp, Vi.sFor, Vi.vVar, Vi.vC, Vi.vOp, Vi.vOpA, Vi.v1, Vi.v2, Vi.vUn, Vi.vCB, Vi.vCall, Vi.vaNil, Vi.vaCons, Vi.vaIt, Vi.vTup, Vi.vLst, Vi.shs, Vi.vIx, Vi.itemRE, Vi.atD, Vi.itemsOf, Vi.gI, Vi.gI0, Vi.gAdd, Vi.gMul, Vi.gNeg, Vi.gLen, Vi.gInt, Vi.gAbs, Vi.gList, Vi.gGcd, Vi.gSum, Vi.gIsi, Vi.tyD, Vi.isa, Vi.argsA, Vi.argA, Vi.isSeq, Vi.flatI, Vi.flat, Vi.flatL, Vi.fitM, Vi.ksB, Vi.truth, Vi.vTru, Vi.tAndT, Vi.tOrT, Vi.tNotT, Vi.vAndV, Vi.vOrV, Vi.vNotV, Vi.vIf, Vi.lineN, Vi.γName, Vi.γTup, Vi.γCons, Vi.γNil, Vi.tgMd, Vi.tYesV, pr, a1, a2, hM, hx, hs, i6, i7, k1, k2, k3, k4, k5, k6, k7, k8, k9, k10, k11, k12]
end
end Ma

set_option maxRecDepth 100000
set_option linter.all false
set_option exponentiation.threshold 100000
namespace Ma
open PySem Vi Mi
theorem rows_ok {p : Nat} (hp : p ∈ P6) {A B : List (Int × Int)} {f : Int × Int} (hA : ∀ q ∈ A, Pk p q) (hB : ∀ q ∈ B, Pk p q) (hf : Pk p f) (hl : A.length ≤ 6) (hl2 : B.length = A.length) :
    f__law_rows [.int p, .lst (A.map pr), .lst (B.map pr), pr f] = .rt (.bl true) := by
  have e0 : startE 15 [true, true, true, true] [.int p, .lst (A.map pr), .lst (B.map pr), pr f] = rw_ p A B f none none none none none none none none none none none := rfl
  have e1 := rows1 hp (B := B) (f := f) hA hl
  have e2 := rows2 hp (A := A) (f := f) hB (by omega)
  have hsc := num_le hp (n := f.1) hf.un (hf.bd.mono (by decide))
  have hsh := shifted_ok hp hf hA hB hl
  have hdot := dot_ok hp hA hB hl
  have hacc := acL_ok hp (l := A.zip B) (ac0 hp) fun q hq => ⟨hA _ (List.of_mem_zip hq).1, hB _ (List.of_mem_zip hq).2⟩
  have hzl : (A.zip B).length = A.length := by rw [List.length_zip]; omega
  have hnd := num_le hp (n := (acL (A.zip B) (0, 1)).1) hacc.un (hacc.bd.mono (by omega))
  have hsame := same_le hp (q := acL (A.zip B) (0, 1))
  have hN := allN_le hp A
  have hM := allN_le hp B
  have hkept := neD_self (okd_lists hN hM)
  have hkept2 := eqD_self (okd_lists hN hM)
  have hmlen : ((A.zip B).map fun q => le p (shN f q.1 q.2)).length = (A.map (le p)).length := by rw [List.length_map, List.length_map, hzl]
  have hmade : ∀ (j : Nat) (q r : Int × Int), A[j]? = some q → B[j]? = some r → L2.atI ((A.zip B).map fun q => le p (shN f q.1 q.2)) (0 + (j : Int)) = some (le p (shN f q r)) := fun j q r h1 h2 => by
    have hz : (A.zip B)[j]? = some (q, r) := by rw [List.getElem?_zip_eq_some]; exact ⟨h1, h2⟩
    exact atI_get (f := fun q : (Int × Int) × (Int × Int) => le p (shN f q.1 q.2)) hz
  have hlenA : (A.map (le p)).length = A.length := List.length_map _
  have hrng : smallI ((A.map (le p)).length : Int) = true := small_of (by omega) (by omega)
  have hmem : ∀ (j : Nat) q, A[j]? = some q → Pk p q := fun j q h => hA q (List.mem_of_getElem? h)
  have hmemB : ∀ (j : Nat) q, B[j]? = some q → Pk p q := fun j q h => hB q (List.mem_of_getElem? h)
  -- the frame from here: what the lists are does not matter but by these facts
  generalize hR : A.map (le p) = R at *
  generalize hO : B.map (le p) = O at *
  generalize hMd : ((A.zip B).map fun q => le p (shN f q.1 q.2)) = M at *
  have e3 : sSet 6 (vCall [true, true, true] f__law_number (vaCons true (vVar 0) (vaCons true (vIx (vVar 3) (vC (.int 0))) (vaCons true (vIx (vVar 3) (vC (.int 1))) vaNil)))) (rw_ p A B f (some (.own, .lst R)) (some (.own, .lst O)) none none none none none none none none none) = .nx (rw_ p A B f (some (.own, .lst R)) (some (.own, .lst O)) (some (.sh, le p f)) none none none none none none none none) := by
    unfold rw_ pr
    simp [Vi.mF, Vi.finF, Vi.startE, Vi.slotsE, Vi.sSeq, Vi.sNx, Vi.sSet, Vi.setMd, Vi.sRet, Vi.sIf, Vi.sExpr, Vi.sPar, Vi.sPar3, Vi.slotOf, Vi.slotP, Vi.sAug, Vi.sAsg, Vi.sApp, Vi.sFor, Vi.vVar, Vi.vC, Vi.vOp, Vi.vOpA, Vi.v1, Vi.v2, Vi.vUn, Vi.vCB, Vi.vCall, Vi.vaNil, Vi.vaCons, Vi.vaIt, Vi.vTup, Vi.vLst, Vi.shs, Vi.vIx, Vi.itemRE, Vi.atD, Vi.itemsOf, L2.atI, L2.ixN, Vi.gI, Vi.gI0, Vi.gAdd, Vi.gMul, Vi.gNeg, Vi.gLen, Vi.gInt, Vi.gAbs, Vi.gList, Vi.gGcd, Vi.gSum, Vi.gIsi, Vi.tyD, Vi.isa, Vi.argsA, Vi.argA, Vi.isSeq, Vi.flatI, Vi.flat, Vi.flatL, Vi.fitM, Vi.ksB, Vi.truth, Vi.vTru, Vi.tAndT, Vi.tOrT, Vi.tNotT, Vi.vAndV, Vi.vOrV, Vi.vNotV, Vi.vIf, Vi.lineN, Vi.γName, Vi.γTup, Vi.γCons, Vi.γNil, Vi.tgMd, Vi.tYesV, hsc]
  have e4 : sSet 7 (vLst (vaCons false (vCB gList (vaCons true (vVar 4) vaNil)) (vaCons false (vCB gList (vaCons true (vVar 5) vaNil)) vaNil))) (rw_ p A B f (some (.own, .lst R)) (some (.own, .lst O)) (some (.sh, le p f)) none none none none none none none none) = .nx (rw_ p A B f (some (.own, .lst R)) (some (.own, .lst O)) (some (.sh, le p f)) (some (.own, .lst [.lst R, .lst O])) none none none none none none none) := by
    unfold rw_
    simp [Vi.mF, Vi.finF, Vi.startE, Vi.slotsE, Vi.sSeq, Vi.sNx, Vi.sSet, Vi.setMd, Vi.sRet, Vi.sIf, Vi.sExpr, Vi.sPar, Vi.sPar3, Vi.slotOf, Vi.slotP, Vi.sAug, Vi.sAsg, Vi.sApp, Vi.sFor, Vi.vVar, Vi.vC, Vi.vOp, Vi.vOpA, Vi.v1, Vi.v2, Vi.vUn, Vi.vCB, Vi.vCall, Vi.vaNil, Vi.vaCons, Vi.vaIt, Vi.vTup, Vi.vLst, Vi.shs, Vi.vIx, Vi.itemRE, Vi.atD, Vi.itemsOf, L2.atI, L2.ixN, Vi.gI, Vi.gI0, Vi.gAdd, Vi.gMul, Vi.gNeg, Vi.gLen, Vi.gInt, Vi.gAbs, Vi.gList, Vi.gGcd, Vi.gSum, Vi.gIsi, Vi.tyD, Vi.isa, Vi.argsA, Vi.argA, Vi.isSeq, Vi.flatI, Vi.flat, Vi.flatL, Vi.fitM, Vi.ksB, Vi.truth, Vi.vTru, Vi.tAndT, Vi.tOrT, Vi.tNotT, Vi.vAndV, Vi.vOrV, Vi.vNotV, Vi.vIf, Vi.lineN, Vi.γName, Vi.γTup, Vi.γCons, Vi.γNil, Vi.tgMd, Vi.tYesV]
  have e5 : sSet 8 (vCall [true, true, true, true] f_shifted (vaCons true (vVar 0) (vaCons true (vVar 4) (vaCons true (vVar 6) (vaCons true (vVar 5) vaNil))))) (rw_ p A B f (some (.own, .lst R)) (some (.own, .lst O)) (some (.sh, le p f)) (some (.own, .lst [.lst R, .lst O])) none none none none none none none) = .nx (rw_ p A B f (some (.own, .lst R)) (some (.own, .lst O)) (some (.sh, le p f)) (some (.own, .lst [.lst R, .lst O])) (some (.own, .lst M)) none none none none none none) := by
    unfold rw_
    simp [Vi.mF, Vi.finF, Vi.startE, Vi.slotsE, Vi.sSeq, Vi.sNx, Vi.sSet, Vi.setMd, Vi.sRet, Vi.sIf, Vi.sExpr, Vi.sPar, Vi.sPar3, Vi.slotOf, Vi.slotP, Vi.sAug, Vi.sAsg, Vi.sApp, Vi.sFor, Vi.vVar, Vi.vC, Vi.vOp, Vi.vOpA, Vi.v1, Vi.v2, Vi.vUn, Vi.vCB, Vi.vCall, Vi.vaNil, Vi.vaCons, Vi.vaIt, Vi.vTup, Vi.vLst, Vi.shs, Vi.vIx, Vi.itemRE, Vi.atD, Vi.itemsOf, L2.atI, L2.ixN, Vi.gI, Vi.gI0, Vi.gAdd, Vi.gMul, Vi.gNeg, Vi.gLen, Vi.gInt, Vi.gAbs, Vi.gList, Vi.gGcd, Vi.gSum, Vi.gIsi, Vi.tyD, Vi.isa, Vi.argsA, Vi.argA, Vi.isSeq, Vi.flatI, Vi.flat, Vi.flatL, Vi.fitM, Vi.ksB, Vi.truth, Vi.vTru, Vi.tAndT, Vi.tOrT, Vi.tNotT, Vi.vAndV, Vi.vOrV, Vi.vNotV, Vi.vIf, Vi.lineN, Vi.γName, Vi.γTup, Vi.γCons, Vi.γNil, Vi.tgMd, Vi.tYesV, hsh]
  have e6 : sIf (tOrT (tNotT (vTru (vCB gIsi (vaCons true (vVar 8) (vaCons true (vC (.ty .list)) vaNil))))) (tOrT (vTru (vOp neD (vCB gLen (vaCons true (vVar 8) vaNil)) (vCB gLen (vaCons true (vVar 4) vaNil)))) (vTru (vOp neD (vLst (vaCons false (vVar 4) (vaCons false (vVar 5) vaNil))) (vVar 7))))) (sRet (vC (.bl false))) sNx (rw_ p A B f (some (.own, .lst R)) (some (.own, .lst O)) (some (.sh, le p f)) (some (.own, .lst [.lst R, .lst O])) (some (.own, .lst M)) none none none none none none) = .nx (rw_ p A B f (some (.sh, .lst R)) (some (.sh, .lst O)) (some (.sh, le p f)) (some (.own, .lst [.lst R, .lst O])) (some (.own, .lst M)) none none none none none none) := by
    unfold rw_
    simp [Vi.mF, Vi.finF, Vi.startE, Vi.slotsE, Vi.sSeq, Vi.sNx, Vi.sSet, Vi.setMd, Vi.sRet, Vi.sIf, Vi.sExpr, Vi.sPar, Vi.sPar3, Vi.slotOf, Vi.slotP, Vi.sAug, Vi.sAsg, Vi.sApp, Vi.sFor, Vi.vVar, Vi.vC, Vi.vOp, Vi.vOpA, Vi.v1, Vi.v2, Vi.vUn, Vi.vCB, Vi.vCall, Vi.vaNil, Vi.vaCons, Vi.vaIt, Vi.vTup, Vi.vLst, Vi.shs, Vi.vIx, Vi.itemRE, Vi.atD, Vi.itemsOf, L2.atI, L2.ixN, Vi.gI, Vi.gI0, Vi.gAdd, Vi.gMul, Vi.gNeg, Vi.gLen, Vi.gInt, Vi.gAbs, Vi.gList, Vi.gGcd, Vi.gSum, Vi.gIsi, Vi.tyD, Vi.isa, Vi.argsA, Vi.argA, Vi.isSeq, Vi.flatI, Vi.flat, Vi.flatL, Vi.fitM, Vi.ksB, Vi.truth, Vi.vTru, Vi.tAndT, Vi.tOrT, Vi.tNotT, Vi.vAndV, Vi.vOrV, Vi.vNotV, Vi.vIf, Vi.lineN, Vi.γName, Vi.γTup, Vi.γCons, Vi.γNil, Vi.tgMd, Vi.tYesV, hmlen, hkept]
  have e7 : sAsg (γTup 2 (γCons (γName 9) (γCons (γName 10) γNil))) (vTup (vaCons false (vC (.int 0)) (vaCons false (vC (.int 1)) vaNil))) (rw_ p A B f (some (.sh, .lst R)) (some (.sh, .lst O)) (some (.sh, le p f)) (some (.own, .lst [.lst R, .lst O])) (some (.own, .lst M)) none none none none none none) = .nx (rw_ p A B f (some (.sh, .lst R)) (some (.sh, .lst O)) (some (.sh, le p f)) (some (.own, .lst [.lst R, .lst O])) (some (.own, .lst M)) (some (.sh, .int 0)) (some (.sh, .int 1)) none none none none) := by
    unfold rw_
    simp [Vi.mF, Vi.finF, Vi.startE, Vi.slotsE, Vi.sSeq, Vi.sNx, Vi.sSet, Vi.setMd, Vi.sRet, Vi.sIf, Vi.sExpr, Vi.sPar, Vi.sPar3, Vi.slotOf, Vi.slotP, Vi.sAug, Vi.sAsg, Vi.sApp, Vi.sFor, Vi.vVar, Vi.vC, Vi.vOp, Vi.vOpA, Vi.v1, Vi.v2, Vi.vUn, Vi.vCB, Vi.vCall, Vi.vaNil, Vi.vaCons, Vi.vaIt, Vi.vTup, Vi.vLst, Vi.shs, Vi.vIx, Vi.itemRE, Vi.atD, Vi.itemsOf, L2.atI, L2.ixN, Vi.gI, Vi.gI0, Vi.gAdd, Vi.gMul, Vi.gNeg, Vi.gLen, Vi.gInt, Vi.gAbs, Vi.gList, Vi.gGcd, Vi.gSum, Vi.gIsi, Vi.tyD, Vi.isa, Vi.argsA, Vi.argA, Vi.isSeq, Vi.flatI, Vi.flat, Vi.flatL, Vi.fitM, Vi.ksB, Vi.truth, Vi.vTru, Vi.tAndT, Vi.tOrT, Vi.tNotT, Vi.vAndV, Vi.vOrV, Vi.vNotV, Vi.vIf, Vi.lineN, Vi.γName, Vi.γTup, Vi.γCons, Vi.γNil, Vi.tgMd, Vi.tYesV]
  have e8 : viRng1 (vaCons true (vCB gLen (vaCons true (vVar 4) vaNil)) vaNil) (rw_ p A B f (some (.sh, .lst R)) (some (.sh, .lst O)) (some (.sh, le p f)) (some (.own, .lst [.lst R, .lst O])) (some (.own, .lst M)) (some (.sh, .int 0)) (some (.sh, .int 1)) none none none none) = .ok .sh (rangeL 0 (R.length : Int).toNat) (rw_ p A B f (some (.sh, .lst R)) (some (.sh, .lst O)) (some (.sh, le p f)) (some (.own, .lst [.lst R, .lst O])) (some (.own, .lst M)) (some (.sh, .int 0)) (some (.sh, .int 1)) none none none none) :=
    viRng1_ok (k := .sh) (by unfold rw_; simp [Vi.mF, Vi.finF, Vi.startE, Vi.slotsE, Vi.sSeq, Vi.sNx, Vi.sSet, Vi.setMd, Vi.sRet, Vi.sIf, Vi.sExpr, Vi.sPar, Vi.sPar3, Vi.slotOf, Vi.slotP, Vi.sAug, Vi.sAsg, Vi.sApp, Vi.sFor, Vi.vVar, Vi.vC, Vi.vOp, Vi.vOpA, Vi.v1, Vi.v2, Vi.vUn, Vi.vCB, Vi.vCall, Vi.vaNil, Vi.vaCons, Vi.vaIt, Vi.vTup, Vi.vLst, Vi.shs, Vi.vIx, Vi.itemRE, Vi.atD, Vi.itemsOf, L2.atI, L2.ixN, Vi.gI, Vi.gI0, Vi.gAdd, Vi.gMul, Vi.gNeg, Vi.gLen, Vi.gInt, Vi.gAbs, Vi.gList, Vi.gGcd, Vi.gSum, Vi.gIsi, Vi.tyD, Vi.isa, Vi.argsA, Vi.argA, Vi.isSeq, Vi.flatI, Vi.flat, Vi.flatL, Vi.fitM, Vi.ksB, Vi.truth, Vi.vTru, Vi.tAndT, Vi.tOrT, Vi.tNotT, Vi.vAndV, Vi.vOrV, Vi.vNotV, Vi.vIf, Vi.lineN, Vi.γName, Vi.γTup, Vi.γCons, Vi.γNil, Vi.tgMd, Vi.tYesV]) hrng
  obtain ⟨e', g1, s11, s12, s13, s14, g2⟩ := forL_inv (γ := γName 11) (f := b3__law_rows) (k := .sh) (fun i e => ∃ s11 s12 s13 s14, e = rw_ p A B f (some (.sh, .lst R)) (some (.sh, .lst O)) (some (.sh, le p f)) (some (.own, .lst [.lst R, .lst O])) (some (.own, .lst M)) (some (.sh, .int (acL ((A.zip B).take i) (0, 1)).1)) (some (.sh, .int (acL ((A.zip B).take i) (0, 1)).2)) s11 s12 s13 s14) (rangeL 0 (R.length : Int).toNat) 0 _ ⟨none, none, none, none, rfl⟩ (fun j x e hj ⟨s11, s12, s13, s14, h⟩ => by
    obtain ⟨hj1, rfl⟩ := range_get hj
    rw [Int.toNat_natCast, hlenA] at hj1
    subst h
    obtain ⟨q, hq⟩ : ∃ q, A[j]? = some q := ⟨_, List.getElem?_eq_getElem hj1⟩
    obtain ⟨r, hr⟩ : ∃ r, B[j]? = some r := ⟨_, List.getElem?_eq_getElem (by omega)⟩
    have hac := acL_ok hp (l := (A.zip B).take (0 + j)) (ac0 hp) fun y hy => ⟨hA _ (List.of_mem_zip (List.mem_of_mem_take hy)).1, hB _ (List.of_mem_zip (List.mem_of_mem_take hy)).2⟩
    have hlen : (0 + ((A.zip B).take (0 + j)).length) ≤ 6 := by rw [List.length_take]; omega
    have hz : (A.zip B)[j]? = some (q, r) := by rw [List.getElem?_zip_eq_some]; exact ⟨hq, hr⟩
    have htake : acL ((A.zip B).take (0 + j + 1)) (0, 1) = acN (acL ((A.zip B).take (0 + j)) (0, 1)) q r := by
      rw [List.take_add_one, Nat.zero_add, hz]
      exact acL_snoc (q, r) _ _
    generalize acL ((A.zip B).take (0 + j)) (0, 1) = s at *
    obtain ⟨n, d⟩ := s
    obtain ⟨t12, t13, t14, k1⟩ := rows_turn hp hf (s12 := s12) (s13 := s13) (s14 := s14) hq hr (hmem j q hq) (hmemB j r hr) (hmade j q r hq hr) (hac.bn.mono (by omega)) (hac.bd.mono (by omega)) R O (.lst [.lst R, .lst O]) (le p f)
    exact ⟨_, rfl, _, k1, _, t12, t13, t14, by rw [htake]⟩)
  subst g2
  have hlenr : 0 + (rangeL 0 (R.length : Int).toNat).length = (A.zip B).length := by simp [rangeL, hzl, hlenA]
  rw [hlenr, List.take_length] at g1
  simp only [List.take_zero, acL] at g1
  unfold f__law_rows m__law_rows
  rw [mF, e0, sSeq_ap, e1, SRes.bind_nx, sSeq_ap, e2, SRes.bind_nx, sSeq_ap, e3, SRes.bind_nx, sSeq_ap, e4, SRes.bind_nx, sSeq_ap, e5, SRes.bind_nx, sSeq_ap, e6, SRes.bind_nx, sSeq_ap, e7, SRes.bind_nx, sSeq_ap, sFor_ok e8, g1, SRes.bind_nx]
  generalize acL (A.zip B) (0, 1) = s at *
  obtain ⟨n, d⟩ := s
  generalize le p (n, d) = Z at *
  unfold rw_
  simp [Vi.mF, Vi.finF, Vi.startE, Vi.slotsE, Vi.sSeq, Vi.sNx, Vi.sSet, Vi.setMd, Vi.sRet, Vi.sIf, Vi.sExpr, Vi.sPar, Vi.sPar3, Vi.slotOf, Vi.slotP, Vi.sAug, Vi.sAsg, Vi.sApp, Vi.sFor, Vi.vVar, Vi.vC, Vi.vOp, Vi.vOpA, Vi.v1, Vi.v2, Vi.vUn, Vi.vCB, Vi.vCall, Vi.vaNil, Vi.vaCons, Vi.vaIt, Vi.vTup, Vi.vLst, Vi.shs, Vi.vIx, Vi.itemRE, Vi.atD, Vi.itemsOf, L2.atI, L2.ixN, Vi.gI, Vi.gI0, Vi.gAdd, Vi.gMul, Vi.gNeg, Vi.gLen, Vi.gInt, Vi.gAbs, Vi.gList, Vi.gGcd, Vi.gSum, Vi.gIsi, Vi.tyD, Vi.isa, Vi.argsA, Vi.argA, Vi.isSeq, Vi.flatI, Vi.flat, Vi.flatL, Vi.fitM, Vi.ksB, Vi.truth, Vi.vTru, Vi.tAndT, Vi.tOrT, Vi.tNotT, Vi.vAndV, Vi.vOrV, Vi.vNotV, Vi.vIf, Vi.lineN, Vi.γName, Vi.γTup, Vi.γCons, Vi.γNil, Vi.tgMd, Vi.tYesV, hdot, hnd, hsame, hkept2]
end Ma

set_option maxRecDepth 100000
set_option linter.all false
set_option exponentiation.threshold 100000
set_option maxHeartbeats 1000000
namespace Ma
open PySem Vi Mi
theorem check_ok {p : Nat} (hp : p ∈ P6) : f_check_field [.int p] = .rt .non := by
  have h : p = 2 ∨ p = 3 ∨ p = 5 ∨ p = 7 ∨ p = 11 ∨ p = 0 := by simpa [P6] using hp
  unfold f_check_field m_check_field
  rcases h with rfl | rfl | rfl | rfl | rfl | rfl <;> simp [Vi.mF, Vi.finF, Vi.startE, Vi.slotsE, Vi.sSeq, Vi.sNx, Vi.sSet, Vi.setMd, Vi.sRet, Vi.sIf, Vi.sExpr, Vi.sPar, Vi.sPar3, Vi.slotOf, Vi.slotP, Vi.sAug, Vi.sAsg, Vi.sApp, Vi.sFor, Vi.vVar, Vi.vC, Vi.vOp, Vi.vOpA, Vi.v1, Vi.v2, Vi.vUn, Vi.vCB, Vi.vCall, Vi.vaNil, Vi.vaCons, Vi.vaIt, Vi.vTup, Vi.vLst, Vi.shs, Vi.vIx, Vi.itemRE, Vi.atD, Vi.itemsOf, L2.atI, L2.ixN, Vi.gI, Vi.gI0, Vi.gAdd, Vi.gMul, Vi.gNeg, Vi.gLen, Vi.gInt, Vi.gAbs, Vi.gList, Vi.gGcd, Vi.gSum, Vi.gIsi, Vi.tyD, Vi.isa, Vi.argsA, Vi.argA, Vi.isSeq, Vi.flatI, Vi.flat, Vi.flatL, Vi.fitM, Vi.ksB, Vi.truth, Vi.vTru, Vi.tAndT, Vi.tOrT, Vi.tNotT, Vi.vAndV, Vi.vOrV, Vi.vNotV, Vi.vIf, Vi.lineN, Vi.γName, Vi.γTup, Vi.γCons, Vi.γNil, Vi.tgMd, Vi.tYesV, c_PRIMES, gNotIn, inD, scal, eqS]
theorem prime_at {m : Int} (h0 : 0 ≤ m) (h1 : m < 6) : ∃ p : Nat, p ∈ P6 ∧ L2.atI [D.int 2, D.int 3, D.int 5, D.int 7, D.int 11, D.int 0] m = some (.int p) := by
  have h : m = 0 ∨ m = 1 ∨ m = 2 ∨ m = 3 ∨ m = 4 ∨ m = 5 := by omega
  rcases h with rfl | rfl | rfl | rfl | rfl | rfl
  · exact ⟨2, by decide, rfl⟩
  · exact ⟨3, by decide, rfl⟩
  · exact ⟨5, by decide, rfl⟩
  · exact ⟨7, by decide, rfl⟩
  · exact ⟨11, by decide, rfl⟩
  · exact ⟨0, by decide, rfl⟩

section
variable {ns : List Int} {V : List D} {p : Nat} {wide : Bool} {long a0 a1 b0 b1 : Int} {k : Nat}
theorem i6 (x y : Int) : L2.atI [D.int x, D.int y] 0 = some (.int x) := rfl
theorem i7 (x y : Int) : L2.atI [D.int x, D.int y] 1 = some (.int y) := rfl
theorem s0 (h : f__law_pool [.scr ns, .int 60] = .fr V) :
    (sSet 1 (vCall [true, true] f__law_pool (vaCons true (vVar 0) (vaCons true (vC (.int 60)) vaNil)))) [some (.tnt, .scr ns), none, none, none, none, none, none, none, none, none, none, none, none, none, none, none, none, none] = .nx [some (.tnt, .scr ns), some (.own, .lst V), none, none, none, none, none, none, none, none, none, none, none, none, none, none, none, none] := by
  simp [Vi.mF, Vi.finF, Vi.startE, Vi.slotsE, Vi.sSeq, Vi.sNx, Vi.sSet, Vi.setMd, Vi.sRet, Vi.sIf, Vi.sExpr, Vi.sPar, Vi.sPar3, Vi.slotOf, Vi.slotP, Vi.sAug, Vi.sAsg, Vi.sApp, Vi.sFor, Vi.vVar, Vi.vC, Vi.vOp, Vi.vOpA, Vi.v1, Vi.v2, Vi.vUn, Vi.vCB, Vi.vCall, Vi.vaNil, Vi.vaCons, Vi.vaIt, Vi.vTup, Vi.vLst, Vi.shs, Vi.vIx, Vi.itemRE, Vi.atD, Vi.itemsOf, Vi.gI, Vi.gI0, Vi.gAdd, Vi.gMul, Vi.gNeg, Vi.gLen, Vi.gInt, Vi.gAbs, Vi.gList, Vi.gGcd, Vi.gSum, Vi.gIsi, Vi.tyD, Vi.isa, Vi.argsA, Vi.argA, Vi.isSeq, Vi.flatI, Vi.flat, Vi.flatL, Vi.fitM, Vi.ksB, Vi.truth, Vi.vTru, Vi.tAndT, Vi.tOrT, Vi.tNotT, Vi.vAndV, Vi.vOrV, Vi.vNotV, Vi.vIf, Vi.lineN, Vi.γName, Vi.γTup, Vi.γCons, Vi.γNil, Vi.tgMd, Vi.tYesV, h]
theorem s1 (p : Nat) {v0 : Int} (h0 : L2.atI V 0 = some (.int v0)) (hp : L2.atI [D.int 2, D.int 3, D.int 5, D.int 7, D.int 11, D.int 0] (v0 % 6) = some (.int p)) :
    (sSet 2 (vIx (vTup (vaCons false (vC (.int 2)) (vaCons false (vC (.int 3)) (vaCons false (vC (.int 5)) (vaCons false (vC (.int 7)) (vaCons false (vC (.int 11)) (vaCons false (vC (.int 0)) vaNil))))))) (vOp gMod (vIx (vVar 1) (vC (.int 0))) (vC (.int 6))))) [some (.tnt, .scr ns), some (.own, .lst V), none, none, none, none, none, none, none, none, none, none, none, none, none, none, none, none] = .nx [some (.tnt, .scr ns), some (.own, .lst V), some (.sh, .int p), none, none, none, none, none, none, none, none, none, none, none, none, none, none, none] := by
  simp [Vi.mF, Vi.finF, Vi.startE, Vi.slotsE, Vi.sSeq, Vi.sNx, Vi.sSet, Vi.setMd, Vi.sRet, Vi.sIf, Vi.sExpr, Vi.sPar, Vi.sPar3, Vi.slotOf, Vi.slotP, Vi.sAug, Vi.sAsg, Vi.sApp, Vi.sFor, Vi.vVar, Vi.vC, Vi.vOp, Vi.vOpA, Vi.v1, Vi.v2, Vi.vUn, Vi.vCB, Vi.vCall, Vi.vaNil, Vi.vaCons, Vi.vaIt, Vi.vTup, Vi.vLst, Vi.shs, Vi.vIx, Vi.itemRE, Vi.atD, Vi.itemsOf, Vi.gI, Vi.gI0, Vi.gAdd, Vi.gMul, Vi.gNeg, Vi.gLen, Vi.gInt, Vi.gAbs, Vi.gList, Vi.gGcd, Vi.gSum, Vi.gIsi, Vi.tyD, Vi.isa, Vi.argsA, Vi.argA, Vi.isSeq, Vi.flatI, Vi.flat, Vi.flatL, Vi.fitM, Vi.ksB, Vi.truth, Vi.vTru, Vi.tAndT, Vi.tOrT, Vi.tNotT, Vi.vAndV, Vi.vOrV, Vi.vNotV, Vi.vIf, Vi.lineN, Vi.γName, Vi.γTup, Vi.γCons, Vi.γNil, Vi.tgMd, Vi.tYesV, h0, hp]
theorem s2 {v55 v57 v58 : Int} (h55 : L2.atI V 55 = some (.int v55)) (h57 : L2.atI V 57 = some (.int v57)) (h58 : L2.atI V 58 = some (.int v58)) (T : Int) (hT : vOp gPow (vC (.int 10)) (vC (.int 57)) = vC (.int T)) (hm : (v57 - 500).natAbs.log2 + T.natAbs.log2 < 100000000) (hw : wide = decide (v55 % 4 = 0)) (hlong : long = (v57 - 500) * T + v58) :
    (sAsg (γTup 2 (γCons (γName 3) (γCons (γName 4) γNil))) (vTup (vaCons false (vOp eqD (vOp gMod (vIx (vVar 1) (vC (.int 55))) (vC (.int 4))) (vC (.int 0))) (vaCons false (vOpA gAdd (vOpA gMul (vOp gSub (vIx (vVar 1) (vC (.int 57))) (vC (.int 500))) (vOp gPow (vC (.int 10)) (vC (.int 57)))) (vIx (vVar 1) (vC (.int 58)))) vaNil)))) [some (.tnt, .scr ns), some (.own, .lst V), some (.sh, .int p), none, none, none, none, none, none, none, none, none, none, none, none, none, none, none] = .nx [some (.tnt, .scr ns), some (.own, .lst V), some (.sh, .int p), some (.sh, .bl wide), some (.sh, .int long), none, none, none, none, none, none, none, none, none, none, none, none, none] := by
  subst hw hlong
  rw [hT]
  simp [Vi.mF, Vi.finF, Vi.startE, Vi.slotsE, Vi.sSeq, Vi.sNx, Vi.sSet, Vi.setMd, Vi.sRet, Vi.sIf, Vi.sExpr, Vi.sPar, Vi.sPar3, Vi.slotOf, Vi.slotP, Vi.sAug, Vi.sAsg, Vi.sApp, Vi.sFor, Vi.vVar, Vi.vC, Vi.vOp, Vi.vOpA, Vi.v1, Vi.v2, Vi.vUn, Vi.vCB, Vi.vCall, Vi.vaNil, Vi.vaCons, Vi.vaIt, Vi.vTup, Vi.vLst, Vi.shs, Vi.vIx, Vi.itemRE, Vi.atD, Vi.itemsOf, Vi.gI, Vi.gI0, Vi.gAdd, Vi.gMul, Vi.gNeg, Vi.gLen, Vi.gInt, Vi.gAbs, Vi.gList, Vi.gGcd, Vi.gSum, Vi.gIsi, Vi.tyD, Vi.isa, Vi.argsA, Vi.argA, Vi.isSeq, Vi.flatI, Vi.flat, Vi.flatL, Vi.fitM, Vi.ksB, Vi.truth, Vi.vTru, Vi.tAndT, Vi.tOrT, Vi.tNotT, Vi.vAndV, Vi.vOrV, Vi.vNotV, Vi.vIf, Vi.lineN, Vi.γName, Vi.γTup, Vi.γCons, Vi.γNil, Vi.tgMd, Vi.tYesV, h55, h57, h58, hm]
theorem s3 (ha : f__law_pair [.lst V, .int 1, .int p, .bl wide] = .rt (.tup [.int a0, .int a1])) (hb : f__law_pair [.lst V, .int 4, .int p, .bl wide] = .rt (.tup [.int b0, .int b1])) :
    (sPar 5 6 (vaIt (vCall [true, true, true, true] f__law_pair (vaCons true (vVar 1) (vaCons true (vC (.int 1)) (vaCons true (vVar 2) (vaCons true (vVar 3) vaNil))))) (vaIt (vCall [true, true, true, true] f__law_pair (vaCons true (vVar 1) (vaCons true (vC (.int 4)) (vaCons true (vVar 2) (vaCons true (vVar 3) vaNil))))) vaNil))) [some (.tnt, .scr ns), some (.own, .lst V), some (.sh, .int p), some (.sh, .bl wide), some (.sh, .int long), none, none, none, none, none, none, none, none, none, none, none, none, none] = .nx [some (.tnt, .scr ns), some (.own, .lst V), some (.sh, .int p), some (.sh, .bl wide), some (.sh, .int long), some (.sh, .tup [.int a0, .int a1]), some (.sh, .tup [.int b0, .int b1]), none, none, none, none, none, none, none, none, none, none, none] := by
  simp [Vi.mF, Vi.finF, Vi.startE, Vi.slotsE, Vi.sSeq, Vi.sNx, Vi.sSet, Vi.setMd, Vi.sRet, Vi.sIf, Vi.sExpr, Vi.sPar, Vi.sPar3, Vi.slotOf, Vi.slotP, Vi.sAug, Vi.sAsg, Vi.sApp, Vi.sFor, Vi.vVar, Vi.vC, Vi.vOp, Vi.vOpA, Vi.v1, Vi.v2, Vi.vUn, Vi.vCB, Vi.vCall, Vi.vaNil, Vi.vaCons, Vi.vaIt, Vi.vTup, Vi.vLst, Vi.shs, Vi.vIx, Vi.itemRE, Vi.atD, Vi.itemsOf, Vi.gI, Vi.gI0, Vi.gAdd, Vi.gMul, Vi.gNeg, Vi.gLen, Vi.gInt, Vi.gAbs, Vi.gList, Vi.gGcd, Vi.gSum, Vi.gIsi, Vi.tyD, Vi.isa, Vi.argsA, Vi.argA, Vi.isSeq, Vi.flatI, Vi.flat, Vi.flatL, Vi.fitM, Vi.ksB, Vi.truth, Vi.vTru, Vi.tAndT, Vi.tOrT, Vi.tNotT, Vi.vAndV, Vi.vOrV, Vi.vNotV, Vi.vIf, Vi.lineN, Vi.γName, Vi.γTup, Vi.γCons, Vi.γNil, Vi.tgMd, Vi.tYesV, ha, hb]
theorem s4 {v7 v56 : Int} (h7 : L2.atI V 7 = some (.int v7)) (h56 : L2.atI V 56 = some (.int v56)) (hk : (k : Int) = v7 % (if v56 % 4 = 0 then 41 else 10)) :
    (sSet 7 (vOp gMod (vIx (vVar 1) (vC (.int 7))) (vIf (vTru (vOp eqD (vOp gMod (vIx (vVar 1) (vC (.int 56))) (vC (.int 4))) (vC (.int 0)))) (vC (.int 41)) (vC (.int 10))))) [some (.tnt, .scr ns), some (.own, .lst V), some (.sh, .int p), some (.sh, .bl wide), some (.sh, .int long), some (.sh, .tup [.int a0, .int a1]), some (.sh, .tup [.int b0, .int b1]), none, none, none, none, none, none, none, none, none, none, none] = .nx [some (.tnt, .scr ns), some (.own, .lst V), some (.sh, .int p), some (.sh, .bl wide), some (.sh, .int long), some (.sh, .tup [.int a0, .int a1]), some (.sh, .tup [.int b0, .int b1]), some (.sh, .int (k : Int)), none, none, none, none, none, none, none, none, none, none] := by
  rw [hk]
  by_cases h : v56 % 4 = 0 <;> simp [Vi.mF, Vi.finF, Vi.startE, Vi.slotsE, Vi.sSeq, Vi.sNx, Vi.sSet, Vi.setMd, Vi.sRet, Vi.sIf, Vi.sExpr, Vi.sPar, Vi.sPar3, Vi.slotOf, Vi.slotP, Vi.sAug, Vi.sAsg, Vi.sApp, Vi.sFor, Vi.vVar, Vi.vC, Vi.vOp, Vi.vOpA, Vi.v1, Vi.v2, Vi.vUn, Vi.vCB, Vi.vCall, Vi.vaNil, Vi.vaCons, Vi.vaIt, Vi.vTup, Vi.vLst, Vi.shs, Vi.vIx, Vi.itemRE, Vi.atD, Vi.itemsOf, Vi.gI, Vi.gI0, Vi.gAdd, Vi.gMul, Vi.gNeg, Vi.gLen, Vi.gInt, Vi.gAbs, Vi.gList, Vi.gGcd, Vi.gSum, Vi.gIsi, Vi.tyD, Vi.isa, Vi.argsA, Vi.argA, Vi.isSeq, Vi.flatI, Vi.flat, Vi.flatL, Vi.fitM, Vi.ksB, Vi.truth, Vi.vTru, Vi.tAndT, Vi.tOrT, Vi.tNotT, Vi.vAndV, Vi.vOrV, Vi.vNotV, Vi.vIf, Vi.lineN, Vi.γName, Vi.γTup, Vi.γCons, Vi.γNil, Vi.tgMd, Vi.tYesV, h7, h56, h]
theorem s5 (ha : f__law_number [.int p, .int a0, .int a1] = .rt (el p a0 a1)) (hb : f__law_number [.int p, .int b0, .int b1] = .rt (el p b0 b1)) :
    (sPar 8 9 (vaIt (vCall [true, true, true] f__law_number (vaCons true (vVar 2) (vaCons true (vIx (vVar 5) (vC (.int 0))) (vaCons true (vIx (vVar 5) (vC (.int 1))) vaNil)))) (vaIt (vCall [true, true, true] f__law_number (vaCons true (vVar 2) (vaCons true (vIx (vVar 6) (vC (.int 0))) (vaCons true (vIx (vVar 6) (vC (.int 1))) vaNil)))) vaNil))) [some (.tnt, .scr ns), some (.own, .lst V), some (.sh, .int p), some (.sh, .bl wide), some (.sh, .int long), some (.sh, .tup [.int a0, .int a1]), some (.sh, .tup [.int b0, .int b1]), some (.sh, .int (k : Int)), none, none, none, none, none, none, none, none, none, none] = .nx [some (.tnt, .scr ns), some (.own, .lst V), some (.sh, .int p), some (.sh, .bl wide), some (.sh, .int long), some (.sh, .tup [.int a0, .int a1]), some (.sh, .tup [.int b0, .int b1]), some (.sh, .int (k : Int)), some (.sh, el p a0 a1), some (.sh, el p b0 b1), none, none, none, none, none, none, none, none] := by
  simp [Vi.mF, Vi.finF, Vi.startE, Vi.slotsE, Vi.sSeq, Vi.sNx, Vi.sSet, Vi.setMd, Vi.sRet, Vi.sIf, Vi.sExpr, Vi.sPar, Vi.sPar3, Vi.slotOf, Vi.slotP, Vi.sAug, Vi.sAsg, Vi.sApp, Vi.sFor, Vi.vVar, Vi.vC, Vi.vOp, Vi.vOpA, Vi.v1, Vi.v2, Vi.vUn, Vi.vCB, Vi.vCall, Vi.vaNil, Vi.vaCons, Vi.vaIt, Vi.vTup, Vi.vLst, Vi.shs, Vi.vIx, Vi.itemRE, Vi.atD, Vi.itemsOf, Vi.gI, Vi.gI0, Vi.gAdd, Vi.gMul, Vi.gNeg, Vi.gLen, Vi.gInt, Vi.gAbs, Vi.gList, Vi.gGcd, Vi.gSum, Vi.gIsi, Vi.tyD, Vi.isa, Vi.argsA, Vi.argA, Vi.isSeq, Vi.flatI, Vi.flat, Vi.flatL, Vi.fitM, Vi.ksB, Vi.truth, Vi.vTru, Vi.tAndT, Vi.tOrT, Vi.tNotT, Vi.vAndV, Vi.vOrV, Vi.vNotV, Vi.vIf, Vi.lineN, Vi.γName, Vi.γTup, Vi.γCons, Vi.γNil, Vi.tgMd, Vi.tYesV, i6, i7, ha, hb]
theorem s6 {v9 : Int} (h9 : L2.atI V 9 = some (.int v9)) (hc : f_check_field [.int p] = .rt .non) (hf : ∀ n, f__law_fields [.int n] = .rt (.bl true)) (hk : ∀ m, f__law_kinds [.int p, el p a0 a1, .int m] = .rt (.bl true)) :
    (sIf (tOrT (vTru (vOp gNotN (vCall [true] f_check_field (vaCons true (vVar 2) vaNil)) (vC .non))) (tOrT (tNotT (vTru (vCall [true] f__law_fields (vaCons true (vOp gSub (vOp gMod (vIx (vVar 1) (vC (.int 9))) (vC (.int 20))) (vC (.int 5))) vaNil)))) (tNotT (vTru (vCall [true, true, true] f__law_kinds (vaCons true (vVar 2) (vaCons true (vVar 8) (vaCons true (vIx (vVar 5) (vC (.int 0))) vaNil)))))))) (sRet (vC (.bl false))) sNx) [some (.tnt, .scr ns), some (.own, .lst V), some (.sh, .int p), some (.sh, .bl wide), some (.sh, .int long), some (.sh, .tup [.int a0, .int a1]), some (.sh, .tup [.int b0, .int b1]), some (.sh, .int (k : Int)), some (.sh, el p a0 a1), some (.sh, el p b0 b1), none, none, none, none, none, none, none, none] = .nx [some (.tnt, .scr ns), some (.own, .lst V), some (.sh, .int p), some (.sh, .bl wide), some (.sh, .int long), some (.sh, .tup [.int a0, .int a1]), some (.sh, .tup [.int b0, .int b1]), some (.sh, .int (k : Int)), some (.sh, el p a0 a1), some (.sh, el p b0 b1), none, none, none, none, none, none, none, none] := by
  simp [Vi.mF, Vi.finF, Vi.startE, Vi.slotsE, Vi.sSeq, Vi.sNx, Vi.sSet, Vi.setMd, Vi.sRet, Vi.sIf, Vi.sExpr, Vi.sPar, Vi.sPar3, Vi.slotOf, Vi.slotP, Vi.sAug, Vi.sAsg, Vi.sApp, Vi.sFor, Vi.vVar, Vi.vC, Vi.vOp, Vi.vOpA, Vi.v1, Vi.v2, Vi.vUn, Vi.vCB, Vi.vCall, Vi.vaNil, Vi.vaCons, Vi.vaIt, Vi.vTup, Vi.vLst, Vi.shs, Vi.vIx, Vi.itemRE, Vi.atD, Vi.itemsOf, Vi.gI, Vi.gI0, Vi.gAdd, Vi.gMul, Vi.gNeg, Vi.gLen, Vi.gInt, Vi.gAbs, Vi.gList, Vi.gGcd, Vi.gSum, Vi.gIsi, Vi.tyD, Vi.isa, Vi.argsA, Vi.argA, Vi.isSeq, Vi.flatI, Vi.flat, Vi.flatL, Vi.fitM, Vi.ksB, Vi.truth, Vi.vTru, Vi.tAndT, Vi.tOrT, Vi.tNotT, Vi.vAndV, Vi.vOrV, Vi.vNotV, Vi.vIf, Vi.lineN, Vi.γName, Vi.γTup, Vi.γCons, Vi.γNil, Vi.tgMd, Vi.tYesV, i6, i7, h9, hc, hf, hk, gNotN, notOpq, notN, isNone]
theorem s7 (hf : ∀ n, f__law_fields [.int n] = .rt (.bl true)) (hk : ∀ m, f__law_kinds [.int p, el p a0 a1, .int m] = .rt (.bl true)) :
    (sIf (tOrT (tNotT (vTru (vCall [true] f__law_fields (vaCons true (vVar 4) vaNil)))) (tOrT (tNotT (vTru (vCall [true] f__law_fields (vaCons true (vUn gNeg (vVar 4)) vaNil)))) (tNotT (vTru (vCall [true, true, true] f__law_kinds (vaCons true (vVar 2) (vaCons true (vVar 8) (vaCons true (vVar 4) vaNil)))))))) (sRet (vC (.bl false))) sNx) [some (.tnt, .scr ns), some (.own, .lst V), some (.sh, .int p), some (.sh, .bl wide), some (.sh, .int long), some (.sh, .tup [.int a0, .int a1]), some (.sh, .tup [.int b0, .int b1]), some (.sh, .int (k : Int)), some (.sh, el p a0 a1), some (.sh, el p b0 b1), none, none, none, none, none, none, none, none] = .nx [some (.tnt, .scr ns), some (.own, .lst V), some (.sh, .int p), some (.sh, .bl wide), some (.sh, .int long), some (.sh, .tup [.int a0, .int a1]), some (.sh, .tup [.int b0, .int b1]), some (.sh, .int (k : Int)), some (.sh, el p a0 a1), some (.sh, el p b0 b1), none, none, none, none, none, none, none, none] := by
  simp [Vi.mF, Vi.finF, Vi.startE, Vi.slotsE, Vi.sSeq, Vi.sNx, Vi.sSet, Vi.setMd, Vi.sRet, Vi.sIf, Vi.sExpr, Vi.sPar, Vi.sPar3, Vi.slotOf, Vi.slotP, Vi.sAug, Vi.sAsg, Vi.sApp, Vi.sFor, Vi.vVar, Vi.vC, Vi.vOp, Vi.vOpA, Vi.v1, Vi.v2, Vi.vUn, Vi.vCB, Vi.vCall, Vi.vaNil, Vi.vaCons, Vi.vaIt, Vi.vTup, Vi.vLst, Vi.shs, Vi.vIx, Vi.itemRE, Vi.atD, Vi.itemsOf, Vi.gI, Vi.gI0, Vi.gAdd, Vi.gMul, Vi.gNeg, Vi.gLen, Vi.gInt, Vi.gAbs, Vi.gList, Vi.gGcd, Vi.gSum, Vi.gIsi, Vi.tyD, Vi.isa, Vi.argsA, Vi.argA, Vi.isSeq, Vi.flatI, Vi.flat, Vi.flatL, Vi.fitM, Vi.ksB, Vi.truth, Vi.vTru, Vi.tAndT, Vi.tOrT, Vi.tNotT, Vi.vAndV, Vi.vOrV, Vi.vNotV, Vi.vIf, Vi.lineN, Vi.γName, Vi.γTup, Vi.γCons, Vi.γNil, Vi.tgMd, Vi.tYesV, i6, i7, hf, hk]
theorem s8 (ho : ∀ n, f_number_of [.int p, .int n] = .rt (el p n 1)) (hn : ∀ n, f__law_number [.int p, .int n, .int 1] = .rt (el p n 1)) (hs : ∀ n d, f__law_same [.int p, el p n d, el p n d] = .rt (.bl true)) :
    (sFor (viSeq (vTup (vaCons false (vIx (vVar 5) (vC (.int 0))) (vaCons false (vVar 4) vaNil)))) (γName 10) b1_law) [some (.tnt, .scr ns), some (.own, .lst V), some (.sh, .int p), some (.sh, .bl wide), some (.sh, .int long), some (.sh, .tup [.int a0, .int a1]), some (.sh, .tup [.int b0, .int b1]), some (.sh, .int (k : Int)), some (.sh, el p a0 a1), some (.sh, el p b0 b1), none, none, none, none, none, none, none, none] = .nx [some (.tnt, .scr ns), some (.own, .lst V), some (.sh, .int p), some (.sh, .bl wide), some (.sh, .int long), some (.sh, .tup [.int a0, .int a1]), some (.sh, .tup [.int b0, .int b1]), some (.sh, .int (k : Int)), some (.sh, el p a0 a1), some (.sh, el p b0 b1), some (.sh, .int long), none, none, none, none, none, none, none] := by
  simp [Vi.mF, Vi.finF, Vi.startE, Vi.slotsE, Vi.sSeq, Vi.sNx, Vi.sSet, Vi.setMd, Vi.sRet, Vi.sIf, Vi.sExpr, Vi.sPar, Vi.sPar3, Vi.slotOf, Vi.slotP, Vi.sAug, Vi.sAsg, Vi.sApp, Vi.sFor, Vi.vVar, Vi.vC, Vi.vOp, Vi.vOpA, Vi.v1, Vi.v2, Vi.vUn, Vi.vCB, Vi.vCall, Vi.vaNil, Vi.vaCons, Vi.vaIt, Vi.vTup, Vi.vLst, Vi.shs, Vi.vIx, Vi.itemRE, Vi.atD, Vi.itemsOf, Vi.gI, Vi.gI0, Vi.gAdd, Vi.gMul, Vi.gNeg, Vi.gLen, Vi.gInt, Vi.gAbs, Vi.gList, Vi.gGcd, Vi.gSum, Vi.gIsi, Vi.tyD, Vi.isa, Vi.argsA, Vi.argA, Vi.isSeq, Vi.flatI, Vi.flat, Vi.flatL, Vi.fitM, Vi.ksB, Vi.truth, Vi.vTru, Vi.tAndT, Vi.tOrT, Vi.tNotT, Vi.vAndV, Vi.vOrV, Vi.vNotV, Vi.vIf, Vi.lineN, Vi.γName, Vi.γTup, Vi.γCons, Vi.γNil, Vi.tgMd, Vi.tYesV, viSeq, forL, b1_law, i6, i7, ho, hn, hs]
theorem s9 (k1 : a0.natAbs.log2 + b1.natAbs.log2 < 100000000) (k2 : b0.natAbs.log2 + a1.natAbs.log2 < 100000000) (k3 : a1.natAbs.log2 + b1.natAbs.log2 < 100000000) (h : f__law_number [.int p, .int (a0 * b1 + b0 * a1), .int (a1 * b1)] = .rt (el p (a0 * b1 + b0 * a1) (a1 * b1))) :
    (sSet 11 (vCall [true, true, true] f__law_number (vaCons true (vVar 2) (vaCons true (vOpA gAdd (vOpA gMul (vIx (vVar 5) (vC (.int 0))) (vIx (vVar 6) (vC (.int 1)))) (vOpA gMul (vIx (vVar 6) (vC (.int 0))) (vIx (vVar 5) (vC (.int 1))))) (vaCons true (vOpA gMul (vIx (vVar 5) (vC (.int 1))) (vIx (vVar 6) (vC (.int 1)))) vaNil))))) [some (.tnt, .scr ns), some (.own, .lst V), some (.sh, .int p), some (.sh, .bl wide), some (.sh, .int long), some (.sh, .tup [.int a0, .int a1]), some (.sh, .tup [.int b0, .int b1]), some (.sh, .int (k : Int)), some (.sh, el p a0 a1), some (.sh, el p b0 b1), some (.sh, .int long), none, none, none, none, none, none, none] = .nx [some (.tnt, .scr ns), some (.own, .lst V), some (.sh, .int p), some (.sh, .bl wide), some (.sh, .int long), some (.sh, .tup [.int a0, .int a1]), some (.sh, .tup [.int b0, .int b1]), some (.sh, .int (k : Int)), some (.sh, el p a0 a1), some (.sh, el p b0 b1), some (.sh, .int long), some (.sh, el p (a0 * b1 + b0 * a1) (a1 * b1)), none, none, none, none, none, none] := by
  simp [Vi.mF, Vi.finF, Vi.startE, Vi.slotsE, Vi.sSeq, Vi.sNx, Vi.sSet, Vi.setMd, Vi.sRet, Vi.sIf, Vi.sExpr, Vi.sPar, Vi.sPar3, Vi.slotOf, Vi.slotP, Vi.sAug, Vi.sAsg, Vi.sApp, Vi.sFor, Vi.vVar, Vi.vC, Vi.vOp, Vi.vOpA, Vi.v1, Vi.v2, Vi.vUn, Vi.vCB, Vi.vCall, Vi.vaNil, Vi.vaCons, Vi.vaIt, Vi.vTup, Vi.vLst, Vi.shs, Vi.vIx, Vi.itemRE, Vi.atD, Vi.itemsOf, Vi.gI, Vi.gI0, Vi.gAdd, Vi.gMul, Vi.gNeg, Vi.gLen, Vi.gInt, Vi.gAbs, Vi.gList, Vi.gGcd, Vi.gSum, Vi.gIsi, Vi.tyD, Vi.isa, Vi.argsA, Vi.argA, Vi.isSeq, Vi.flatI, Vi.flat, Vi.flatL, Vi.fitM, Vi.ksB, Vi.truth, Vi.vTru, Vi.tAndT, Vi.tOrT, Vi.tNotT, Vi.vAndV, Vi.vOrV, Vi.vNotV, Vi.vIf, Vi.lineN, Vi.γName, Vi.γTup, Vi.γCons, Vi.γNil, Vi.tgMd, Vi.tYesV, i6, i7, k1, k2, k3, h]
theorem s10 (k1 : a0.natAbs.log2 + b1.natAbs.log2 < 100000000) (k2 : b0.natAbs.log2 + a1.natAbs.log2 < 100000000) (k3 : a1.natAbs.log2 + b1.natAbs.log2 < 100000000) (h : f__law_number [.int p, .int (a0 * b1 - b0 * a1), .int (a1 * b1)] = .rt (el p (a0 * b1 - b0 * a1) (a1 * b1))) :
    (sSet 12 (vCall [true, true, true] f__law_number (vaCons true (vVar 2) (vaCons true (vOp gSub (vOpA gMul (vIx (vVar 5) (vC (.int 0))) (vIx (vVar 6) (vC (.int 1)))) (vOpA gMul (vIx (vVar 6) (vC (.int 0))) (vIx (vVar 5) (vC (.int 1))))) (vaCons true (vOpA gMul (vIx (vVar 5) (vC (.int 1))) (vIx (vVar 6) (vC (.int 1)))) vaNil))))) [some (.tnt, .scr ns), some (.own, .lst V), some (.sh, .int p), some (.sh, .bl wide), some (.sh, .int long), some (.sh, .tup [.int a0, .int a1]), some (.sh, .tup [.int b0, .int b1]), some (.sh, .int (k : Int)), some (.sh, el p a0 a1), some (.sh, el p b0 b1), some (.sh, .int long), some (.sh, el p (a0 * b1 + b0 * a1) (a1 * b1)), none, none, none, none, none, none] = .nx [some (.tnt, .scr ns), some (.own, .lst V), some (.sh, .int p), some (.sh, .bl wide), some (.sh, .int long), some (.sh, .tup [.int a0, .int a1]), some (.sh, .tup [.int b0, .int b1]), some (.sh, .int (k : Int)), some (.sh, el p a0 a1), some (.sh, el p b0 b1), some (.sh, .int long), some (.sh, el p (a0 * b1 + b0 * a1) (a1 * b1)), some (.sh, el p (a0 * b1 - b0 * a1) (a1 * b1)), none, none, none, none, none] := by
  simp [Vi.mF, Vi.finF, Vi.startE, Vi.slotsE, Vi.sSeq, Vi.sNx, Vi.sSet, Vi.setMd, Vi.sRet, Vi.sIf, Vi.sExpr, Vi.sPar, Vi.sPar3, Vi.slotOf, Vi.slotP, Vi.sAug, Vi.sAsg, Vi.sApp, Vi.sFor, Vi.vVar, Vi.vC, Vi.vOp, Vi.vOpA, Vi.v1, Vi.v2, Vi.vUn, Vi.vCB, Vi.vCall, Vi.vaNil, Vi.vaCons, Vi.vaIt, Vi.vTup, Vi.vLst, Vi.shs, Vi.vIx, Vi.itemRE, Vi.atD, Vi.itemsOf, Vi.gI, Vi.gI0, Vi.gAdd, Vi.gMul, Vi.gNeg, Vi.gLen, Vi.gInt, Vi.gAbs, Vi.gList, Vi.gGcd, Vi.gSum, Vi.gIsi, Vi.tyD, Vi.isa, Vi.argsA, Vi.argA, Vi.isSeq, Vi.flatI, Vi.flat, Vi.flatL, Vi.fitM, Vi.ksB, Vi.truth, Vi.vTru, Vi.tAndT, Vi.tOrT, Vi.tNotT, Vi.vAndV, Vi.vOrV, Vi.vNotV, Vi.vIf, Vi.lineN, Vi.γName, Vi.γTup, Vi.γCons, Vi.γNil, Vi.tgMd, Vi.tYesV, i6, i7, k1, k2, k3, h]
theorem s11 (hs : ∀ n d, f__law_same [.int p, el p n d, el p n d] = .rt (.bl true)) (h1 : f_add [.int p, el p a0 a1, el p b0 b1] = .rt (el p (a0 * b1 + b0 * a1) (a1 * b1))) (h2 : f_subtract [.int p, el p a0 a1, el p b0 b1] = .rt (el p (a0 * b1 - b0 * a1) (a1 * b1))) :
    (sIf (tOrT (tNotT (vTru (vCall [true, true, true] f__law_same (vaCons true (vVar 2) (vaCons true (vCall [true, true, true] f_add (vaCons true (vVar 2) (vaCons true (vVar 8) (vaCons true (vVar 9) vaNil)))) (vaCons true (vVar 11) vaNil)))))) (tNotT (vTru (vCall [true, true, true] f__law_same (vaCons true (vVar 2) (vaCons true (vCall [true, true, true] f_subtract (vaCons true (vVar 2) (vaCons true (vVar 8) (vaCons true (vVar 9) vaNil)))) (vaCons true (vVar 12) vaNil))))))) (sRet (vC (.bl false))) sNx) [some (.tnt, .scr ns), some (.own, .lst V), some (.sh, .int p), some (.sh, .bl wide), some (.sh, .int long), some (.sh, .tup [.int a0, .int a1]), some (.sh, .tup [.int b0, .int b1]), some (.sh, .int (k : Int)), some (.sh, el p a0 a1), some (.sh, el p b0 b1), some (.sh, .int long), some (.sh, el p (a0 * b1 + b0 * a1) (a1 * b1)), some (.sh, el p (a0 * b1 - b0 * a1) (a1 * b1)), none, none, none, none, none] = .nx [some (.tnt, .scr ns), some (.own, .lst V), some (.sh, .int p), some (.sh, .bl wide), some (.sh, .int long), some (.sh, .tup [.int a0, .int a1]), some (.sh, .tup [.int b0, .int b1]), some (.sh, .int (k : Int)), some (.sh, el p a0 a1), some (.sh, el p b0 b1), some (.sh, .int long), some (.sh, el p (a0 * b1 + b0 * a1) (a1 * b1)), some (.sh, el p (a0 * b1 - b0 * a1) (a1 * b1)), none, none, none, none, none] := by
  simp [Vi.mF, Vi.finF, Vi.startE, Vi.slotsE, Vi.sSeq, Vi.sNx, Vi.sSet, Vi.setMd, Vi.sRet, Vi.sIf, Vi.sExpr, Vi.sPar, Vi.sPar3, Vi.slotOf, Vi.slotP, Vi.sAug, Vi.sAsg, Vi.sApp, Vi.sFor, Vi.vVar, Vi.vC, Vi.vOp, Vi.vOpA, Vi.v1, Vi.v2, Vi.vUn, Vi.vCB, Vi.vCall, Vi.vaNil, Vi.vaCons, Vi.vaIt, Vi.vTup, Vi.vLst, Vi.shs, Vi.vIx, Vi.itemRE, Vi.atD, Vi.itemsOf, Vi.gI, Vi.gI0, Vi.gAdd, Vi.gMul, Vi.gNeg, Vi.gLen, Vi.gInt, Vi.gAbs, Vi.gList, Vi.gGcd, Vi.gSum, Vi.gIsi, Vi.tyD, Vi.isa, Vi.argsA, Vi.argA, Vi.isSeq, Vi.flatI, Vi.flat, Vi.flatL, Vi.fitM, Vi.ksB, Vi.truth, Vi.vTru, Vi.tAndT, Vi.tOrT, Vi.tNotT, Vi.vAndV, Vi.vOrV, Vi.vNotV, Vi.vIf, Vi.lineN, Vi.γName, Vi.γTup, Vi.γCons, Vi.γNil, Vi.tgMd, Vi.tYesV, hs, h1, h2]
theorem s12 (hs : ∀ n d, f__law_same [.int p, el p n d, el p n d] = .rt (.bl true)) (h1 : f_negate [.int p, el p a0 a1] = .rt (el p (-a0) a1)) (h2 : f__law_number [.int p, .int (-a0), .int a1] = .rt (el p (-a0) a1)) :
    (sIf (tNotT (vTru (vCall [true, true, true] f__law_same (vaCons true (vVar 2) (vaCons true (vCall [true, true] f_negate (vaCons true (vVar 2) (vaCons true (vVar 8) vaNil))) (vaCons true (vCall [true, true, true] f__law_number (vaCons true (vVar 2) (vaCons true (vUn gNeg (vIx (vVar 5) (vC (.int 0)))) (vaCons true (vIx (vVar 5) (vC (.int 1))) vaNil)))) vaNil)))))) (sRet (vC (.bl false))) sNx) [some (.tnt, .scr ns), some (.own, .lst V), some (.sh, .int p), some (.sh, .bl wide), some (.sh, .int long), some (.sh, .tup [.int a0, .int a1]), some (.sh, .tup [.int b0, .int b1]), some (.sh, .int (k : Int)), some (.sh, el p a0 a1), some (.sh, el p b0 b1), some (.sh, .int long), some (.sh, el p (a0 * b1 + b0 * a1) (a1 * b1)), some (.sh, el p (a0 * b1 - b0 * a1) (a1 * b1)), none, none, none, none, none] = .nx [some (.tnt, .scr ns), some (.own, .lst V), some (.sh, .int p), some (.sh, .bl wide), some (.sh, .int long), some (.sh, .tup [.int a0, .int a1]), some (.sh, .tup [.int b0, .int b1]), some (.sh, .int (k : Int)), some (.sh, el p a0 a1), some (.sh, el p b0 b1), some (.sh, .int long), some (.sh, el p (a0 * b1 + b0 * a1) (a1 * b1)), some (.sh, el p (a0 * b1 - b0 * a1) (a1 * b1)), none, none, none, none, none] := by
  simp [Vi.mF, Vi.finF, Vi.startE, Vi.slotsE, Vi.sSeq, Vi.sNx, Vi.sSet, Vi.setMd, Vi.sRet, Vi.sIf, Vi.sExpr, Vi.sPar, Vi.sPar3, Vi.slotOf, Vi.slotP, Vi.sAug, Vi.sAsg, Vi.sApp, Vi.sFor, Vi.vVar, Vi.vC, Vi.vOp, Vi.vOpA, Vi.v1, Vi.v2, Vi.vUn, Vi.vCB, Vi.vCall, Vi.vaNil, Vi.vaCons, Vi.vaIt, Vi.vTup, Vi.vLst, Vi.shs, Vi.vIx, Vi.itemRE, Vi.atD, Vi.itemsOf, Vi.gI, Vi.gI0, Vi.gAdd, Vi.gMul, Vi.gNeg, Vi.gLen, Vi.gInt, Vi.gAbs, Vi.gList, Vi.gGcd, Vi.gSum, Vi.gIsi, Vi.tyD, Vi.isa, Vi.argsA, Vi.argA, Vi.isSeq, Vi.flatI, Vi.flat, Vi.flatL, Vi.fitM, Vi.ksB, Vi.truth, Vi.vTru, Vi.tAndT, Vi.tOrT, Vi.tNotT, Vi.vAndV, Vi.vOrV, Vi.vNotV, Vi.vIf, Vi.lineN, Vi.γName, Vi.γTup, Vi.γCons, Vi.γNil, Vi.tgMd, Vi.tYesV, i6, i7, hs, h1, h2]
theorem s13 (hs : ∀ n d, f__law_same [.int p, el p n d, el p n d] = .rt (.bl true)) (k4 : a0.natAbs.log2 + b0.natAbs.log2 < 100000000) (k3 : a1.natAbs.log2 + b1.natAbs.log2 < 100000000) (h1 : f_multiply [.int p, el p a0 a1, el p b0 b1] = .rt (el p (a0 * b0) (a1 * b1))) (h2 : f__law_number [.int p, .int (a0 * b0), .int (a1 * b1)] = .rt (el p (a0 * b0) (a1 * b1))) :
    (sIf (tNotT (vTru (vCall [true, true, true] f__law_same (vaCons true (vVar 2) (vaCons true (vCall [true, true, true] f_multiply (vaCons true (vVar 2) (vaCons true (vVar 8) (vaCons true (vVar 9) vaNil)))) (vaCons true (vCall [true, true, true] f__law_number (vaCons true (vVar 2) (vaCons true (vOpA gMul (vIx (vVar 5) (vC (.int 0))) (vIx (vVar 6) (vC (.int 0)))) (vaCons true (vOpA gMul (vIx (vVar 5) (vC (.int 1))) (vIx (vVar 6) (vC (.int 1)))) vaNil)))) vaNil)))))) (sRet (vC (.bl false))) sNx) [some (.tnt, .scr ns), some (.own, .lst V), some (.sh, .int p), some (.sh, .bl wide), some (.sh, .int long), some (.sh, .tup [.int a0, .int a1]), some (.sh, .tup [.int b0, .int b1]), some (.sh, .int (k : Int)), some (.sh, el p a0 a1), some (.sh, el p b0 b1), some (.sh, .int long), some (.sh, el p (a0 * b1 + b0 * a1) (a1 * b1)), some (.sh, el p (a0 * b1 - b0 * a1) (a1 * b1)), none, none, none, none, none] = .nx [some (.tnt, .scr ns), some (.own, .lst V), some (.sh, .int p), some (.sh, .bl wide), some (.sh, .int long), some (.sh, .tup [.int a0, .int a1]), some (.sh, .tup [.int b0, .int b1]), some (.sh, .int (k : Int)), some (.sh, el p a0 a1), some (.sh, el p b0 b1), some (.sh, .int long), some (.sh, el p (a0 * b1 + b0 * a1) (a1 * b1)), some (.sh, el p (a0 * b1 - b0 * a1) (a1 * b1)), none, none, none, none, none] := by
  simp [Vi.mF, Vi.finF, Vi.startE, Vi.slotsE, Vi.sSeq, Vi.sNx, Vi.sSet, Vi.setMd, Vi.sRet, Vi.sIf, Vi.sExpr, Vi.sPar, Vi.sPar3, Vi.slotOf, Vi.slotP, Vi.sAug, Vi.sAsg, Vi.sApp, Vi.sFor, Vi.vVar, Vi.vC, Vi.vOp, Vi.vOpA, Vi.v1, Vi.v2, Vi.vUn, Vi.vCB, Vi.vCall, Vi.vaNil, Vi.vaCons, Vi.vaIt, Vi.vTup, Vi.vLst, Vi.shs, Vi.vIx, Vi.itemRE, Vi.atD, Vi.itemsOf, Vi.gI, Vi.gI0, Vi.gAdd, Vi.gMul, Vi.gNeg, Vi.gLen, Vi.gInt, Vi.gAbs, Vi.gList, Vi.gGcd, Vi.gSum, Vi.gIsi, Vi.tyD, Vi.isa, Vi.argsA, Vi.argA, Vi.isSeq, Vi.flatI, Vi.flat, Vi.flatL, Vi.fitM, Vi.ksB, Vi.truth, Vi.vTru, Vi.tAndT, Vi.tOrT, Vi.tNotT, Vi.vAndV, Vi.vOrV, Vi.vNotV, Vi.vIf, Vi.lineN, Vi.γName, Vi.γTup, Vi.γCons, Vi.γNil, Vi.tgMd, Vi.tYesV, i6, i7, hs, k3, k4, h1, h2]
theorem s14  :
    (sAsg (γTup 2 (γCons (γName 10) (γCons (γName 13) γNil))) (vTup (vaCons false (vC (.int 1)) (vaCons false (vC (.int 1)) vaNil)))) [some (.tnt, .scr ns), some (.own, .lst V), some (.sh, .int p), some (.sh, .bl wide), some (.sh, .int long), some (.sh, .tup [.int a0, .int a1]), some (.sh, .tup [.int b0, .int b1]), some (.sh, .int (k : Int)), some (.sh, el p a0 a1), some (.sh, el p b0 b1), some (.sh, .int long), some (.sh, el p (a0 * b1 + b0 * a1) (a1 * b1)), some (.sh, el p (a0 * b1 - b0 * a1) (a1 * b1)), none, none, none, none, none] = .nx [some (.tnt, .scr ns), some (.own, .lst V), some (.sh, .int p), some (.sh, .bl wide), some (.sh, .int long), some (.sh, .tup [.int a0, .int a1]), some (.sh, .tup [.int b0, .int b1]), some (.sh, .int (k : Int)), some (.sh, el p a0 a1), some (.sh, el p b0 b1), some (.sh, .int 1), some (.sh, el p (a0 * b1 + b0 * a1) (a1 * b1)), some (.sh, el p (a0 * b1 - b0 * a1) (a1 * b1)), some (.sh, .int 1), none, none, none, none] := by
  simp [Vi.mF, Vi.finF, Vi.startE, Vi.slotsE, Vi.sSeq, Vi.sNx, Vi.sSet, Vi.setMd, Vi.sRet, Vi.sIf, Vi.sExpr, Vi.sPar, Vi.sPar3, Vi.slotOf, Vi.slotP, Vi.sAug, Vi.sAsg, Vi.sApp, Vi.sFor, Vi.vVar, Vi.vC, Vi.vOp, Vi.vOpA, Vi.v1, Vi.v2, Vi.vUn, Vi.vCB, Vi.vCall, Vi.vaNil, Vi.vaCons, Vi.vaIt, Vi.vTup, Vi.vLst, Vi.shs, Vi.vIx, Vi.itemRE, Vi.atD, Vi.itemsOf, Vi.gI, Vi.gI0, Vi.gAdd, Vi.gMul, Vi.gNeg, Vi.gLen, Vi.gInt, Vi.gAbs, Vi.gList, Vi.gGcd, Vi.gSum, Vi.gIsi, Vi.tyD, Vi.isa, Vi.argsA, Vi.argA, Vi.isSeq, Vi.flatI, Vi.flat, Vi.flatL, Vi.fitM, Vi.ksB, Vi.truth, Vi.vTru, Vi.tAndT, Vi.tOrT, Vi.tNotT, Vi.vAndV, Vi.vOrV, Vi.vNotV, Vi.vIf, Vi.lineN, Vi.γName, Vi.γTup, Vi.γCons, Vi.γNil, Vi.tgMd, Vi.tYesV]
theorem s15 (ha : Bt 20 a0) (hb : Bt 20 a1) (hk : k ≤ 41) : ∃ t14,
    (sFor (viRng1 (vaCons true (vVar 7) vaNil)) (γName 14) b2_law) [some (.tnt, .scr ns), some (.own, .lst V), some (.sh, .int p), some (.sh, .bl wide), some (.sh, .int long), some (.sh, .tup [.int a0, .int a1]), some (.sh, .tup [.int b0, .int b1]), some (.sh, .int (k : Int)), some (.sh, el p a0 a1), some (.sh, el p b0 b1), some (.sh, .int 1), some (.sh, el p (a0 * b1 + b0 * a1) (a1 * b1)), some (.sh, el p (a0 * b1 - b0 * a1) (a1 * b1)), some (.sh, .int 1), none, none, none, none] = .nx [some (.tnt, .scr ns), some (.own, .lst V), some (.sh, .int p), some (.sh, .bl wide), some (.sh, .int long), some (.sh, .tup [.int a0, .int a1]), some (.sh, .tup [.int b0, .int b1]), some (.sh, .int (k : Int)), some (.sh, el p a0 a1), some (.sh, el p b0 b1), some (.sh, .int (a0 ^ k)), some (.sh, el p (a0 * b1 + b0 * a1) (a1 * b1)), some (.sh, el p (a0 * b1 - b0 * a1) (a1 * b1)), some (.sh, .int (a1 ^ k)), t14, none, none, none] := by
  have e2 : viRng1 (vaCons true (vVar 7) vaNil) [some (.tnt, .scr ns), some (.own, .lst V), some (.sh, .int p), some (.sh, .bl wide), some (.sh, .int long), some (.sh, .tup [.int a0, .int a1]), some (.sh, .tup [.int b0, .int b1]), some (.sh, .int (k : Int)), some (.sh, el p a0 a1), some (.sh, el p b0 b1), some (.sh, .int 1), some (.sh, el p (a0 * b1 + b0 * a1) (a1 * b1)), some (.sh, el p (a0 * b1 - b0 * a1) (a1 * b1)), some (.sh, .int 1), none, none, none, none] = .ok .sh (rangeL 0 (k : Int).toNat) [some (.tnt, .scr ns), some (.own, .lst V), some (.sh, .int p), some (.sh, .bl wide), some (.sh, .int long), some (.sh, .tup [.int a0, .int a1]), some (.sh, .tup [.int b0, .int b1]), some (.sh, .int (k : Int)), some (.sh, el p a0 a1), some (.sh, el p b0 b1), some (.sh, .int 1), some (.sh, el p (a0 * b1 + b0 * a1) (a1 * b1)), some (.sh, el p (a0 * b1 - b0 * a1) (a1 * b1)), some (.sh, .int 1), none, none, none, none] :=
    viRng1_ok (k := .sh) (by simp [Vi.mF, Vi.finF, Vi.startE, Vi.slotsE, Vi.sSeq, Vi.sNx, Vi.sSet, Vi.setMd, Vi.sRet, Vi.sIf, Vi.sExpr, Vi.sPar, Vi.sPar3, Vi.slotOf, Vi.slotP, Vi.sAug, Vi.sAsg, Vi.sApp, Vi.sFor, Vi.vVar, Vi.vC, Vi.vOp, Vi.vOpA, Vi.v1, Vi.v2, Vi.vUn, Vi.vCB, Vi.vCall, Vi.vaNil, Vi.vaCons, Vi.vaIt, Vi.vTup, Vi.vLst, Vi.shs, Vi.vIx, Vi.itemRE, Vi.atD, Vi.itemsOf, Vi.gI, Vi.gI0, Vi.gAdd, Vi.gMul, Vi.gNeg, Vi.gLen, Vi.gInt, Vi.gAbs, Vi.gList, Vi.gGcd, Vi.gSum, Vi.gIsi, Vi.tyD, Vi.isa, Vi.argsA, Vi.argA, Vi.isSeq, Vi.flatI, Vi.flat, Vi.flatL, Vi.fitM, Vi.ksB, Vi.truth, Vi.vTru, Vi.tAndT, Vi.tOrT, Vi.tNotT, Vi.vAndV, Vi.vOrV, Vi.vNotV, Vi.vIf, Vi.lineN, Vi.γName, Vi.γTup, Vi.γCons, Vi.γNil, Vi.tgMd, Vi.tYesV]) (small_of (by omega) (by omega))
  obtain ⟨e', g1, s4, g2⟩ := forL_inv (γ := γName 14) (f := b2_law) (k := .sh) (fun i e => ∃ t, e = [some (.tnt, .scr ns), some (.own, .lst V), some (.sh, .int p), some (.sh, .bl wide), some (.sh, .int long), some (.sh, .tup [.int a0, .int a1]), some (.sh, .tup [.int b0, .int b1]), some (.sh, .int (k : Int)), some (.sh, el p a0 a1), some (.sh, el p b0 b1), some (.sh, .int (a0 ^ i)), some (.sh, el p (a0 * b1 + b0 * a1) (a1 * b1)), some (.sh, el p (a0 * b1 - b0 * a1) (a1 * b1)), some (.sh, .int (a1 ^ i)), t, none, none, none]) (rangeL 0 (k : Int).toNat) 0 [some (.tnt, .scr ns), some (.own, .lst V), some (.sh, .int p), some (.sh, .bl wide), some (.sh, .int long), some (.sh, .tup [.int a0, .int a1]), some (.sh, .tup [.int b0, .int b1]), some (.sh, .int (k : Int)), some (.sh, el p a0 a1), some (.sh, el p b0 b1), some (.sh, .int 1), some (.sh, el p (a0 * b1 + b0 * a1) (a1 * b1)), some (.sh, el p (a0 * b1 - b0 * a1) (a1 * b1)), some (.sh, .int 1), none, none, none, none] ⟨none, by simp⟩ (fun j x e hj ⟨t, h⟩ => by
    obtain ⟨hj1, rfl⟩ := range_get hj
    subst h
    have m1 := (Bt_pow ha (0 + j)).mulOk ha (by omega)
    have m2 := (Bt_pow hb (0 + j)).mulOk hb (by omega)
    have q1 : a0 ^ (0 + j) * a0 = a0 ^ (0 + j + 1) := (Int.pow_succ _ _).symm
    have q2 : a1 ^ (0 + j) * a1 = a1 ^ (0 + j + 1) := (Int.pow_succ _ _).symm
    refine ⟨_, rfl, [some (.tnt, .scr ns), some (.own, .lst V), some (.sh, .int p), some (.sh, .bl wide), some (.sh, .int long), some (.sh, .tup [.int a0, .int a1]), some (.sh, .tup [.int b0, .int b1]), some (.sh, .int (k : Int)), some (.sh, el p a0 a1), some (.sh, el p b0 b1), some (.sh, .int (a0 ^ (0 + j + 1))), some (.sh, el p (a0 * b1 + b0 * a1) (a1 * b1)), some (.sh, el p (a0 * b1 - b0 * a1) (a1 * b1)), some (.sh, .int (a1 ^ (0 + j + 1))), some (.sh, .int (0 + j)), none, none, none], ?_, _, rfl⟩
    generalize a0 ^ (0 + j + 1) = z1 at *
    generalize a1 ^ (0 + j + 1) = z2 at *
    generalize a0 ^ (0 + j) = w1 at *
    generalize a1 ^ (0 + j) = w2 at *
    unfold b2_law
    simp [Vi.mF, Vi.finF, Vi.startE, Vi.slotsE, Vi.sSeq, Vi.sNx, Vi.sSet, Vi.setMd, Vi.sRet, Vi.sIf, Vi.sExpr, Vi.sPar, Vi.sPar3, Vi.slotOf, Vi.slotP, Vi.sAug, Vi.sAsg, Vi.sApp, Vi.sFor, Vi.vVar, Vi.vC, Vi.vOp, Vi.vOpA, Vi.v1, Vi.v2, Vi.vUn, Vi.vCB, Vi.vCall, Vi.vaNil, Vi.vaCons, Vi.vaIt, Vi.vTup, Vi.vLst, Vi.shs, Vi.vIx, Vi.itemRE, Vi.atD, Vi.itemsOf, Vi.gI, Vi.gI0, Vi.gAdd, Vi.gMul, Vi.gNeg, Vi.gLen, Vi.gInt, Vi.gAbs, Vi.gList, Vi.gGcd, Vi.gSum, Vi.gIsi, Vi.tyD, Vi.isa, Vi.argsA, Vi.argA, Vi.isSeq, Vi.flatI, Vi.flat, Vi.flatL, Vi.fitM, Vi.ksB, Vi.truth, Vi.vTru, Vi.tAndT, Vi.tOrT, Vi.tNotT, Vi.vAndV, Vi.vOrV, Vi.vNotV, Vi.vIf, Vi.lineN, Vi.γName, Vi.γTup, Vi.γCons, Vi.γNil, Vi.tgMd, Vi.tYesV, i6, i7, m1, m2, q1, q2])
  subst g2
  have hlen : 0 + (rangeL 0 (k : Int).toNat).length = k := by simp [rangeL]
  rw [hlen] at g1
  exact ⟨s4, by rw [sFor_ok e2]; exact g1⟩
theorem s16 {t14 : Slot} (hs : ∀ n d, f__law_same [.int p, el p n d, el p n d] = .rt (.bl true)) (h1 : f_raise_to [.int p, el p a0 a1, .int (k : Int)] = .rt (el p (a0 ^ k) (a1 ^ k))) (h2 : f__law_number [.int p, .int (a0 ^ k), .int (a1 ^ k)] = .rt (el p (a0 ^ k) (a1 ^ k))) :
    (sIf (tNotT (vTru (vCall [true, true, true] f__law_same (vaCons true (vVar 2) (vaCons true (vCall [true, true, true] f_raise_to (vaCons true (vVar 2) (vaCons true (vVar 8) (vaCons true (vVar 7) vaNil)))) (vaCons true (vCall [true, true, true] f__law_number (vaCons true (vVar 2) (vaCons true (vVar 10) (vaCons true (vVar 13) vaNil)))) vaNil)))))) (sRet (vC (.bl false))) sNx) [some (.tnt, .scr ns), some (.own, .lst V), some (.sh, .int p), some (.sh, .bl wide), some (.sh, .int long), some (.sh, .tup [.int a0, .int a1]), some (.sh, .tup [.int b0, .int b1]), some (.sh, .int (k : Int)), some (.sh, el p a0 a1), some (.sh, el p b0 b1), some (.sh, .int (a0 ^ k)), some (.sh, el p (a0 * b1 + b0 * a1) (a1 * b1)), some (.sh, el p (a0 * b1 - b0 * a1) (a1 * b1)), some (.sh, .int (a1 ^ k)), t14, none, none, none] = .nx [some (.tnt, .scr ns), some (.own, .lst V), some (.sh, .int p), some (.sh, .bl wide), some (.sh, .int long), some (.sh, .tup [.int a0, .int a1]), some (.sh, .tup [.int b0, .int b1]), some (.sh, .int (k : Int)), some (.sh, el p a0 a1), some (.sh, el p b0 b1), some (.sh, .int (a0 ^ k)), some (.sh, el p (a0 * b1 + b0 * a1) (a1 * b1)), some (.sh, el p (a0 * b1 - b0 * a1) (a1 * b1)), some (.sh, .int (a1 ^ k)), t14, none, none, none] := by
  generalize a0 ^ k = z1 at *
  generalize a1 ^ k = z2 at *
  simp [Vi.mF, Vi.finF, Vi.startE, Vi.slotsE, Vi.sSeq, Vi.sNx, Vi.sSet, Vi.setMd, Vi.sRet, Vi.sIf, Vi.sExpr, Vi.sPar, Vi.sPar3, Vi.slotOf, Vi.slotP, Vi.sAug, Vi.sAsg, Vi.sApp, Vi.sFor, Vi.vVar, Vi.vC, Vi.vOp, Vi.vOpA, Vi.v1, Vi.v2, Vi.vUn, Vi.vCB, Vi.vCall, Vi.vaNil, Vi.vaCons, Vi.vaIt, Vi.vTup, Vi.vLst, Vi.shs, Vi.vIx, Vi.itemRE, Vi.atD, Vi.itemsOf, Vi.gI, Vi.gI0, Vi.gAdd, Vi.gMul, Vi.gNeg, Vi.gLen, Vi.gInt, Vi.gAbs, Vi.gList, Vi.gGcd, Vi.gSum, Vi.gIsi, Vi.tyD, Vi.isa, Vi.argsA, Vi.argA, Vi.isSeq, Vi.flatI, Vi.flat, Vi.flatL, Vi.fitM, Vi.ksB, Vi.truth, Vi.vTru, Vi.tAndT, Vi.tOrT, Vi.tNotT, Vi.vAndV, Vi.vOrV, Vi.vNotV, Vi.vIf, Vi.lineN, Vi.γName, Vi.γTup, Vi.γCons, Vi.γNil, Vi.tgMd, Vi.tYesV, hs, h1, h2]
theorem s17 {t14 : Slot} (h : f__law_number [.int p, .int 0, .int 1] = .rt (el p 0 1)) :
    (sSet 15 (vCall [true, true, true] f__law_number (vaCons true (vVar 2) (vaCons true (vC (.int 0)) (vaCons true (vC (.int 1)) vaNil))))) [some (.tnt, .scr ns), some (.own, .lst V), some (.sh, .int p), some (.sh, .bl wide), some (.sh, .int long), some (.sh, .tup [.int a0, .int a1]), some (.sh, .tup [.int b0, .int b1]), some (.sh, .int (k : Int)), some (.sh, el p a0 a1), some (.sh, el p b0 b1), some (.sh, .int (a0 ^ k)), some (.sh, el p (a0 * b1 + b0 * a1) (a1 * b1)), some (.sh, el p (a0 * b1 - b0 * a1) (a1 * b1)), some (.sh, .int (a1 ^ k)), t14, none, none, none] = .nx [some (.tnt, .scr ns), some (.own, .lst V), some (.sh, .int p), some (.sh, .bl wide), some (.sh, .int long), some (.sh, .tup [.int a0, .int a1]), some (.sh, .tup [.int b0, .int b1]), some (.sh, .int (k : Int)), some (.sh, el p a0 a1), some (.sh, el p b0 b1), some (.sh, .int (a0 ^ k)), some (.sh, el p (a0 * b1 + b0 * a1) (a1 * b1)), some (.sh, el p (a0 * b1 - b0 * a1) (a1 * b1)), some (.sh, .int (a1 ^ k)), t14, some (.sh, el p 0 1), none, none] := by
  simp [Vi.mF, Vi.finF, Vi.startE, Vi.slotsE, Vi.sSeq, Vi.sNx, Vi.sSet, Vi.setMd, Vi.sRet, Vi.sIf, Vi.sExpr, Vi.sPar, Vi.sPar3, Vi.slotOf, Vi.slotP, Vi.sAug, Vi.sAsg, Vi.sApp, Vi.sFor, Vi.vVar, Vi.vC, Vi.vOp, Vi.vOpA, Vi.v1, Vi.v2, Vi.vUn, Vi.vCB, Vi.vCall, Vi.vaNil, Vi.vaCons, Vi.vaIt, Vi.vTup, Vi.vLst, Vi.shs, Vi.vIx, Vi.itemRE, Vi.atD, Vi.itemsOf, Vi.gI, Vi.gI0, Vi.gAdd, Vi.gMul, Vi.gNeg, Vi.gLen, Vi.gInt, Vi.gAbs, Vi.gList, Vi.gGcd, Vi.gSum, Vi.gIsi, Vi.tyD, Vi.isa, Vi.argsA, Vi.argA, Vi.isSeq, Vi.flatI, Vi.flat, Vi.flatL, Vi.fitM, Vi.ksB, Vi.truth, Vi.vTru, Vi.tAndT, Vi.tOrT, Vi.tNotT, Vi.vAndV, Vi.vOrV, Vi.vNotV, Vi.vIf, Vi.lineN, Vi.γName, Vi.γTup, Vi.γCons, Vi.γNil, Vi.tgMd, Vi.tYesV, h]
theorem s18a {t14 : Slot} (hs : ∀ n d, f__law_same [.int p, el p n d, el p n d] = .rt (.bl true)) (h0 : neD (el p b0 b1) (el p 0 1) = some (.bl true)) (k1 : a0.natAbs.log2 + b1.natAbs.log2 < 100000000) (k2 : a1.natAbs.log2 + b0.natAbs.log2 < 100000000) (h1 : f_invert [.int p, el p b0 b1] = .rt (el p b1 b0)) (h2 : f__law_number [.int p, .int b1, .int b0] = .rt (el p b1 b0)) (h3 : f_divide [.int p, el p a0 a1, el p b0 b1] = .rt (el p (a0 * b1) (a1 * b0))) (h4 : f__law_number [.int p, .int (a0 * b1), .int (a1 * b0)] = .rt (el p (a0 * b1) (a1 * b0)))
    (h5 : f_ratio_of [.int p, .int a0, .int b0] = .rt (el p a0 b0)) (h6 : f__law_number [.int p, .int a0, .int b0] = .rt (el p a0 b0)) (h7 : f_ratio_of [.int p, .int long, .int b0] = .rt (el p long b0)) (h8 : f__law_number [.int p, .int long, .int b0] = .rt (el p long b0)) : ∃ z10 : Int,
    (sIf (vTru (vOp neD (vVar 9) (vVar 15))) (sSeq (sIf (tNotT (vTru (vCall [true, true, true] f__law_same (vaCons true (vVar 2) (vaCons true (vCall [true, true] f_invert (vaCons true (vVar 2) (vaCons true (vVar 9) vaNil))) (vaCons true (vCall [true, true, true] f__law_number (vaCons true (vVar 2) (vaCons true (vIx (vVar 6) (vC (.int 1))) (vaCons true (vIx (vVar 6) (vC (.int 0))) vaNil)))) vaNil)))))) (sRet (vC (.bl false))) sNx) (sSeq (sIf (tNotT (vTru (vCall [true, true, true] f__law_same (vaCons true (vVar 2) (vaCons true (vCall [true, true, true] f_divide (vaCons true (vVar 2) (vaCons true (vVar 8) (vaCons true (vVar 9) vaNil)))) (vaCons true (vCall [true, true, true] f__law_number (vaCons true (vVar 2) (vaCons true (vOpA gMul (vIx (vVar 5) (vC (.int 0))) (vIx (vVar 6) (vC (.int 1)))) (vaCons true (vOpA gMul (vIx (vVar 5) (vC (.int 1))) (vIx (vVar 6) (vC (.int 0)))) vaNil)))) vaNil)))))) (sRet (vC (.bl false))) sNx) (sFor (viSeq (vTup (vaCons false (vIx (vVar 5) (vC (.int 0))) (vaCons false (vVar 4) vaNil)))) (γName 10) b3_law))) sNx) [some (.tnt, .scr ns), some (.own, .lst V), some (.sh, .int p), some (.sh, .bl wide), some (.sh, .int long), some (.sh, .tup [.int a0, .int a1]), some (.sh, .tup [.int b0, .int b1]), some (.sh, .int (k : Int)), some (.sh, el p a0 a1), some (.sh, el p b0 b1), some (.sh, .int (a0 ^ k)), some (.sh, el p (a0 * b1 + b0 * a1) (a1 * b1)), some (.sh, el p (a0 * b1 - b0 * a1) (a1 * b1)), some (.sh, .int (a1 ^ k)), t14, some (.sh, el p 0 1), none, none] = .nx [some (.tnt, .scr ns), some (.own, .lst V), some (.sh, .int p), some (.sh, .bl wide), some (.sh, .int long), some (.sh, .tup [.int a0, .int a1]), some (.sh, .tup [.int b0, .int b1]), some (.sh, .int (k : Int)), some (.sh, el p a0 a1), some (.sh, el p b0 b1), some (.sh, .int z10), some (.sh, el p (a0 * b1 + b0 * a1) (a1 * b1)), some (.sh, el p (a0 * b1 - b0 * a1) (a1 * b1)), some (.sh, .int (a1 ^ k)), t14, some (.sh, el p 0 1), none, none] := by
  refine ⟨long, ?_⟩
  generalize a0 ^ k = z1 at *
  generalize a1 ^ k = z2 at *
  simp [Vi.mF, Vi.finF, Vi.startE, Vi.slotsE, Vi.sSeq, Vi.sNx, Vi.sSet, Vi.setMd, Vi.sRet, Vi.sIf, Vi.sExpr, Vi.sPar, Vi.sPar3, Vi.slotOf, Vi.slotP, Vi.sAug, Vi.sAsg, Vi.sApp, Vi.sFor, Vi.vVar, Vi.vC, Vi.vOp, Vi.vOpA, Vi.v1, Vi.v2, Vi.vUn, Vi.vCB, Vi.vCall, Vi.vaNil, Vi.vaCons, Vi.vaIt, Vi.vTup, Vi.vLst, Vi.shs, Vi.vIx, Vi.itemRE, Vi.atD, Vi.itemsOf, Vi.gI, Vi.gI0, Vi.gAdd, Vi.gMul, Vi.gNeg, Vi.gLen, Vi.gInt, Vi.gAbs, Vi.gList, Vi.gGcd, Vi.gSum, Vi.gIsi, Vi.tyD, Vi.isa, Vi.argsA, Vi.argA, Vi.isSeq, Vi.flatI, Vi.flat, Vi.flatL, Vi.fitM, Vi.ksB, Vi.truth, Vi.vTru, Vi.tAndT, Vi.tOrT, Vi.tNotT, Vi.vAndV, Vi.vOrV, Vi.vNotV, Vi.vIf, Vi.lineN, Vi.γName, Vi.γTup, Vi.γCons, Vi.γNil, Vi.tgMd, Vi.tYesV, viSeq, forL, b3_law, i6, i7, hs, h0, k1, k2, h1, h2, h3, h4, h5, h6, h7, h8]
theorem s18b {t14 : Slot} (h0 : neD (el p b0 b1) (el p 0 1) = some (.bl false)) : ∃ z10 : Int,
    (sIf (vTru (vOp neD (vVar 9) (vVar 15))) (sSeq (sIf (tNotT (vTru (vCall [true, true, true] f__law_same (vaCons true (vVar 2) (vaCons true (vCall [true, true] f_invert (vaCons true (vVar 2) (vaCons true (vVar 9) vaNil))) (vaCons true (vCall [true, true, true] f__law_number (vaCons true (vVar 2) (vaCons true (vIx (vVar 6) (vC (.int 1))) (vaCons true (vIx (vVar 6) (vC (.int 0))) vaNil)))) vaNil)))))) (sRet (vC (.bl false))) sNx) (sSeq (sIf (tNotT (vTru (vCall [true, true, true] f__law_same (vaCons true (vVar 2) (vaCons true (vCall [true, true, true] f_divide (vaCons true (vVar 2) (vaCons true (vVar 8) (vaCons true (vVar 9) vaNil)))) (vaCons true (vCall [true, true, true] f__law_number (vaCons true (vVar 2) (vaCons true (vOpA gMul (vIx (vVar 5) (vC (.int 0))) (vIx (vVar 6) (vC (.int 1)))) (vaCons true (vOpA gMul (vIx (vVar 5) (vC (.int 1))) (vIx (vVar 6) (vC (.int 0)))) vaNil)))) vaNil)))))) (sRet (vC (.bl false))) sNx) (sFor (viSeq (vTup (vaCons false (vIx (vVar 5) (vC (.int 0))) (vaCons false (vVar 4) vaNil)))) (γName 10) b3_law))) sNx) [some (.tnt, .scr ns), some (.own, .lst V), some (.sh, .int p), some (.sh, .bl wide), some (.sh, .int long), some (.sh, .tup [.int a0, .int a1]), some (.sh, .tup [.int b0, .int b1]), some (.sh, .int (k : Int)), some (.sh, el p a0 a1), some (.sh, el p b0 b1), some (.sh, .int (a0 ^ k)), some (.sh, el p (a0 * b1 + b0 * a1) (a1 * b1)), some (.sh, el p (a0 * b1 - b0 * a1) (a1 * b1)), some (.sh, .int (a1 ^ k)), t14, some (.sh, el p 0 1), none, none] = .nx [some (.tnt, .scr ns), some (.own, .lst V), some (.sh, .int p), some (.sh, .bl wide), some (.sh, .int long), some (.sh, .tup [.int a0, .int a1]), some (.sh, .tup [.int b0, .int b1]), some (.sh, .int (k : Int)), some (.sh, el p a0 a1), some (.sh, el p b0 b1), some (.sh, .int z10), some (.sh, el p (a0 * b1 + b0 * a1) (a1 * b1)), some (.sh, el p (a0 * b1 - b0 * a1) (a1 * b1)), some (.sh, .int (a1 ^ k)), t14, some (.sh, el p 0 1), none, none] := by
  refine ⟨a0 ^ k, ?_⟩
  generalize a0 ^ k = z1 at *
  generalize a1 ^ k = z2 at *
  simp [Vi.mF, Vi.finF, Vi.startE, Vi.slotsE, Vi.sSeq, Vi.sNx, Vi.sSet, Vi.setMd, Vi.sRet, Vi.sIf, Vi.sExpr, Vi.sPar, Vi.sPar3, Vi.slotOf, Vi.slotP, Vi.sAug, Vi.sAsg, Vi.sApp, Vi.sFor, Vi.vVar, Vi.vC, Vi.vOp, Vi.vOpA, Vi.v1, Vi.v2, Vi.vUn, Vi.vCB, Vi.vCall, Vi.vaNil, Vi.vaCons, Vi.vaIt, Vi.vTup, Vi.vLst, Vi.shs, Vi.vIx, Vi.itemRE, Vi.atD, Vi.itemsOf, Vi.gI, Vi.gI0, Vi.gAdd, Vi.gMul, Vi.gNeg, Vi.gLen, Vi.gInt, Vi.gAbs, Vi.gList, Vi.gGcd, Vi.gSum, Vi.gIsi, Vi.tyD, Vi.isa, Vi.argsA, Vi.argA, Vi.isSeq, Vi.flatI, Vi.flat, Vi.flatL, Vi.fitM, Vi.ksB, Vi.truth, Vi.vTru, Vi.tAndT, Vi.tOrT, Vi.tNotT, Vi.vAndV, Vi.vOrV, Vi.vNotV, Vi.vIf, Vi.lineN, Vi.γName, Vi.γTup, Vi.γCons, Vi.γNil, Vi.tgMd, Vi.tYesV, h0]
theorem s19 {z10 : Int} {t14 : Slot} {v8 : Int} {m : Nat} (h8 : L2.atI V 8 = some (.int v8)) (hmv : v8 % 7 = (m : Int)) (hm : m ≤ 6) (fn : Nat → Int × Int) (hf : ∀ j : Nat, j < 7 → f__law_pair [.lst V, .int (10 + 3 * (j : Int)), .int p, .bl wide] = .rt (pr (fn j))) :
    (sSet 16 (vLc (viRng1 (vaCons true (vOp gMod (vIx (vVar 1) (vC (.int 8))) (vC (.int 7))) vaNil)) (γName 14) tYesV e4_law [14])) [some (.tnt, .scr ns), some (.own, .lst V), some (.sh, .int p), some (.sh, .bl wide), some (.sh, .int long), some (.sh, .tup [.int a0, .int a1]), some (.sh, .tup [.int b0, .int b1]), some (.sh, .int (k : Int)), some (.sh, el p a0 a1), some (.sh, el p b0 b1), some (.sh, .int z10), some (.sh, el p (a0 * b1 + b0 * a1) (a1 * b1)), some (.sh, el p (a0 * b1 - b0 * a1) (a1 * b1)), some (.sh, .int (a1 ^ k)), t14, some (.sh, el p 0 1), none, none] = .nx [some (.tnt, .scr ns), some (.own, .lst V), some (.sh, .int p), some (.sh, .bl wide), some (.sh, .int long), some (.sh, .tup [.int a0, .int a1]), some (.sh, .tup [.int b0, .int b1]), some (.sh, .int (k : Int)), some (.sh, el p a0 a1), some (.sh, el p b0 b1), some (.sh, .int z10), some (.sh, el p (a0 * b1 + b0 * a1) (a1 * b1)), some (.sh, el p (a0 * b1 - b0 * a1) (a1 * b1)), some (.sh, .int (a1 ^ k)), t14, some (.sh, el p 0 1), some (.own, .lst (((List.range m).map fn).map pr)), none] := by
  have e2 : viRng1 (vaCons true (vOp gMod (vIx (vVar 1) (vC (.int 8))) (vC (.int 7))) vaNil) [some (.tnt, .scr ns), some (.own, .lst V), some (.sh, .int p), some (.sh, .bl wide), some (.sh, .int long), some (.sh, .tup [.int a0, .int a1]), some (.sh, .tup [.int b0, .int b1]), some (.sh, .int (k : Int)), some (.sh, el p a0 a1), some (.sh, el p b0 b1), some (.sh, .int z10), some (.sh, el p (a0 * b1 + b0 * a1) (a1 * b1)), some (.sh, el p (a0 * b1 - b0 * a1) (a1 * b1)), some (.sh, .int (a1 ^ k)), t14, some (.sh, el p 0 1), none, none] = .ok .sh (rangeL 0 (m : Int).toNat) [some (.tnt, .scr ns), some (.own, .lst V), some (.sh, .int p), some (.sh, .bl wide), some (.sh, .int long), some (.sh, .tup [.int a0, .int a1]), some (.sh, .tup [.int b0, .int b1]), some (.sh, .int (k : Int)), some (.sh, el p a0 a1), some (.sh, el p b0 b1), some (.sh, .int z10), some (.sh, el p (a0 * b1 + b0 * a1) (a1 * b1)), some (.sh, el p (a0 * b1 - b0 * a1) (a1 * b1)), some (.sh, .int (a1 ^ k)), t14, some (.sh, el p 0 1), none, none] :=
    viRng1_ok (k := .sh) (by simp [Vi.mF, Vi.finF, Vi.startE, Vi.slotsE, Vi.sSeq, Vi.sNx, Vi.sSet, Vi.setMd, Vi.sRet, Vi.sIf, Vi.sExpr, Vi.sPar, Vi.sPar3, Vi.slotOf, Vi.slotP, Vi.sAug, Vi.sAsg, Vi.sApp, Vi.sFor, Vi.vVar, Vi.vC, Vi.vOp, Vi.vOpA, Vi.v1, Vi.v2, Vi.vUn, Vi.vCB, Vi.vCall, Vi.vaNil, Vi.vaCons, Vi.vaIt, Vi.vTup, Vi.vLst, Vi.shs, Vi.vIx, Vi.itemRE, Vi.atD, Vi.itemsOf, Vi.gI, Vi.gI0, Vi.gAdd, Vi.gMul, Vi.gNeg, Vi.gLen, Vi.gInt, Vi.gAbs, Vi.gList, Vi.gGcd, Vi.gSum, Vi.gIsi, Vi.tyD, Vi.isa, Vi.argsA, Vi.argA, Vi.isSeq, Vi.flatI, Vi.flat, Vi.flatL, Vi.fitM, Vi.ksB, Vi.truth, Vi.vTru, Vi.tAndT, Vi.tOrT, Vi.tNotT, Vi.vAndV, Vi.vOrV, Vi.vNotV, Vi.vIf, Vi.lineN, Vi.γName, Vi.γTup, Vi.γCons, Vi.γNil, Vi.tgMd, Vi.tYesV, h8, hmv]) (small_of (by omega) (by omega))
  have key : lcL (γName 14) tYesV e4_law .sh (nestE [some (.tnt, .scr ns), some (.own, .lst V), some (.sh, .int p), some (.sh, .bl wide), some (.sh, .int long), some (.sh, .tup [.int a0, .int a1]), some (.sh, .tup [.int b0, .int b1]), some (.sh, .int (k : Int)), some (.sh, el p a0 a1), some (.sh, el p b0 b1), some (.sh, .int z10), some (.sh, el p (a0 * b1 + b0 * a1) (a1 * b1)), some (.sh, el p (a0 * b1 - b0 * a1) (a1 * b1)), some (.sh, .int (a1 ^ k)), t14, some (.sh, el p 0 1), none, none] [14]) ((List.range m).map fun (i : Nat) => D.int (0 + i)) = some ((List.range m).map fun j => pr (fn j)) := by
    refine lcL_map _ fun j hj => ?_
    have hj' : j < m := List.mem_range.mp hj
    have h := hf j (by omega)
    have hl : Nat.log2 3 + j.log2 < 100000000 := by
      have := Bt.mulOk (x := 3) (y := (j : Int)) (Bt.of (k := 2) 3 (by decide) (by decide) (by decide)) (Bt.of (k := 5) 10 (by omega) (by omega) (by decide)) (by decide)
      simpa using this
    refine ⟨[some (.tnt, .scr ns), some (.tnt, .lst V), some (.sh, .int p), some (.sh, .bl wide), some (.sh, .int long), some (.sh, .tup [.int a0, .int a1]), some (.sh, .tup [.int b0, .int b1]), some (.sh, .int (k : Int)), some (.sh, el p a0 a1), some (.sh, el p b0 b1), some (.sh, .int z10), some (.sh, el p (a0 * b1 + b0 * a1) (a1 * b1)), some (.sh, el p (a0 * b1 - b0 * a1) (a1 * b1)), some (.sh, .int (a1 ^ k)), some (.sh, .int (0 + (j : Int))), some (.sh, el p 0 1), none, none], _, rfl, rfl, .sh, [some (.tnt, .scr ns), some (.tnt, .lst V), some (.sh, .int p), some (.sh, .bl wide), some (.sh, .int long), some (.sh, .tup [.int a0, .int a1]), some (.sh, .tup [.int b0, .int b1]), some (.sh, .int (k : Int)), some (.sh, el p a0 a1), some (.sh, el p b0 b1), some (.sh, .int z10), some (.sh, el p (a0 * b1 + b0 * a1) (a1 * b1)), some (.sh, el p (a0 * b1 - b0 * a1) (a1 * b1)), some (.sh, .int (a1 ^ k)), some (.sh, .int (0 + (j : Int))), some (.sh, el p 0 1), none, none], ?_⟩
    generalize fn j = q at *
    generalize a0 ^ k = z1 at *
    generalize a1 ^ k = z2 at *
    unfold e4_law
    unfold pr at h ⊢
    simp [Vi.mF, Vi.finF, Vi.startE, Vi.slotsE, Vi.sSeq, Vi.sNx, Vi.sSet, Vi.setMd, Vi.sRet, Vi.sIf, Vi.sExpr, Vi.sPar, Vi.sPar3, Vi.slotOf, Vi.slotP, Vi.sAug, Vi.sAsg, Vi.sApp, Vi.sFor, Vi.vVar, Vi.vC, Vi.vOp, Vi.vOpA, Vi.v1, Vi.v2, Vi.vUn, Vi.vCB, Vi.vCall, Vi.vaNil, Vi.vaCons, Vi.vaIt, Vi.vTup, Vi.vLst, Vi.shs, Vi.vIx, Vi.itemRE, Vi.atD, Vi.itemsOf, Vi.gI, Vi.gI0, Vi.gAdd, Vi.gMul, Vi.gNeg, Vi.gLen, Vi.gInt, Vi.gAbs, Vi.gList, Vi.gGcd, Vi.gSum, Vi.gIsi, Vi.tyD, Vi.isa, Vi.argsA, Vi.argA, Vi.isSeq, Vi.flatI, Vi.flat, Vi.flatL, Vi.fitM, Vi.ksB, Vi.truth, Vi.vTru, Vi.tAndT, Vi.tOrT, Vi.tNotT, Vi.vAndV, Vi.vOrV, Vi.vNotV, Vi.vIf, Vi.lineN, Vi.γName, Vi.γTup, Vi.γCons, Vi.γNil, Vi.tgMd, Vi.tYesV, hl, h]
  have hmm : ((List.range m).map fn).map pr = (List.range m).map fun j => pr (fn j) := List.map_map
  have hr : rangeL 0 (m : Int).toNat = (List.range m).map fun (i : Nat) => D.int (0 + i) := rfl
  rw [hr] at e2
  have hle : ((List.range m).map fun (i : Nat) => D.int (0 + i)).length ≤ lineN := by
    rw [List.length_map, List.length_range]
    exact Nat.le_trans hm (by decide)
  rw [hmm, sSet_fr (vLc_ok e2 hle key)]
  rfl
theorem s20 {z10 : Int} {t14 : Slot} {m : Nat} {A : List (Int × Int)} (hA : A.length = m) (hm : m ≤ 6) (fn : Nat → Int × Int) (hf : ∀ j : Nat, j < 7 → f__law_pair [.lst V, .int (30 + 3 * (j : Int)), .int p, .bl wide] = .rt (pr (fn j))) :
    (sSet 17 (vLc (viRng1 (vaCons true (vCB gLen (vaCons true (vVar 16) vaNil)) vaNil)) (γName 14) tYesV e5_law [14])) [some (.tnt, .scr ns), some (.own, .lst V), some (.sh, .int p), some (.sh, .bl wide), some (.sh, .int long), some (.sh, .tup [.int a0, .int a1]), some (.sh, .tup [.int b0, .int b1]), some (.sh, .int (k : Int)), some (.sh, el p a0 a1), some (.sh, el p b0 b1), some (.sh, .int z10), some (.sh, el p (a0 * b1 + b0 * a1) (a1 * b1)), some (.sh, el p (a0 * b1 - b0 * a1) (a1 * b1)), some (.sh, .int (a1 ^ k)), t14, some (.sh, el p 0 1), some (.own, .lst (A.map pr)), none] = .nx [some (.tnt, .scr ns), some (.own, .lst V), some (.sh, .int p), some (.sh, .bl wide), some (.sh, .int long), some (.sh, .tup [.int a0, .int a1]), some (.sh, .tup [.int b0, .int b1]), some (.sh, .int (k : Int)), some (.sh, el p a0 a1), some (.sh, el p b0 b1), some (.sh, .int z10), some (.sh, el p (a0 * b1 + b0 * a1) (a1 * b1)), some (.sh, el p (a0 * b1 - b0 * a1) (a1 * b1)), some (.sh, .int (a1 ^ k)), t14, some (.sh, el p 0 1), some (.own, .lst (A.map pr)), some (.own, .lst (((List.range m).map fn).map pr))] := by
  have e2 : viRng1 (vaCons true (vCB gLen (vaCons true (vVar 16) vaNil)) vaNil) [some (.tnt, .scr ns), some (.own, .lst V), some (.sh, .int p), some (.sh, .bl wide), some (.sh, .int long), some (.sh, .tup [.int a0, .int a1]), some (.sh, .tup [.int b0, .int b1]), some (.sh, .int (k : Int)), some (.sh, el p a0 a1), some (.sh, el p b0 b1), some (.sh, .int z10), some (.sh, el p (a0 * b1 + b0 * a1) (a1 * b1)), some (.sh, el p (a0 * b1 - b0 * a1) (a1 * b1)), some (.sh, .int (a1 ^ k)), t14, some (.sh, el p 0 1), some (.own, .lst (A.map pr)), none] = .ok .sh (rangeL 0 (m : Int).toNat) [some (.tnt, .scr ns), some (.own, .lst V), some (.sh, .int p), some (.sh, .bl wide), some (.sh, .int long), some (.sh, .tup [.int a0, .int a1]), some (.sh, .tup [.int b0, .int b1]), some (.sh, .int (k : Int)), some (.sh, el p a0 a1), some (.sh, el p b0 b1), some (.sh, .int z10), some (.sh, el p (a0 * b1 + b0 * a1) (a1 * b1)), some (.sh, el p (a0 * b1 - b0 * a1) (a1 * b1)), some (.sh, .int (a1 ^ k)), t14, some (.sh, el p 0 1), some (.own, .lst (A.map pr)), none] :=
    viRng1_ok (k := .sh) (by simp [Vi.mF, Vi.finF, Vi.startE, Vi.slotsE, Vi.sSeq, Vi.sNx, Vi.sSet, Vi.setMd, Vi.sRet, Vi.sIf, Vi.sExpr, Vi.sPar, Vi.sPar3, Vi.slotOf, Vi.slotP, Vi.sAug, Vi.sAsg, Vi.sApp, Vi.sFor, Vi.vVar, Vi.vC, Vi.vOp, Vi.vOpA, Vi.v1, Vi.v2, Vi.vUn, Vi.vCB, Vi.vCall, Vi.vaNil, Vi.vaCons, Vi.vaIt, Vi.vTup, Vi.vLst, Vi.shs, Vi.vIx, Vi.itemRE, Vi.atD, Vi.itemsOf, Vi.gI, Vi.gI0, Vi.gAdd, Vi.gMul, Vi.gNeg, Vi.gLen, Vi.gInt, Vi.gAbs, Vi.gList, Vi.gGcd, Vi.gSum, Vi.gIsi, Vi.tyD, Vi.isa, Vi.argsA, Vi.argA, Vi.isSeq, Vi.flatI, Vi.flat, Vi.flatL, Vi.fitM, Vi.ksB, Vi.truth, Vi.vTru, Vi.tAndT, Vi.tOrT, Vi.tNotT, Vi.vAndV, Vi.vOrV, Vi.vNotV, Vi.vIf, Vi.lineN, Vi.γName, Vi.γTup, Vi.γCons, Vi.γNil, Vi.tgMd, Vi.tYesV, hA]) (small_of (by omega) (by omega))
  have key : lcL (γName 14) tYesV e5_law .sh (nestE [some (.tnt, .scr ns), some (.own, .lst V), some (.sh, .int p), some (.sh, .bl wide), some (.sh, .int long), some (.sh, .tup [.int a0, .int a1]), some (.sh, .tup [.int b0, .int b1]), some (.sh, .int (k : Int)), some (.sh, el p a0 a1), some (.sh, el p b0 b1), some (.sh, .int z10), some (.sh, el p (a0 * b1 + b0 * a1) (a1 * b1)), some (.sh, el p (a0 * b1 - b0 * a1) (a1 * b1)), some (.sh, .int (a1 ^ k)), t14, some (.sh, el p 0 1), some (.own, .lst (A.map pr)), none] [14]) ((List.range m).map fun (i : Nat) => D.int (0 + i)) = some ((List.range m).map fun j => pr (fn j)) := by
    refine lcL_map _ fun j hj => ?_
    have hj' : j < m := List.mem_range.mp hj
    have h := hf j (by omega)
    have hl : Nat.log2 3 + j.log2 < 100000000 := by
      have := Bt.mulOk (x := 3) (y := (j : Int)) (Bt.of (k := 2) 3 (by decide) (by decide) (by decide)) (Bt.of (k := 5) 10 (by omega) (by omega) (by decide)) (by decide)
      simpa using this
    refine ⟨[some (.tnt, .scr ns), some (.tnt, .lst V), some (.sh, .int p), some (.sh, .bl wide), some (.sh, .int long), some (.sh, .tup [.int a0, .int a1]), some (.sh, .tup [.int b0, .int b1]), some (.sh, .int (k : Int)), some (.sh, el p a0 a1), some (.sh, el p b0 b1), some (.sh, .int z10), some (.sh, el p (a0 * b1 + b0 * a1) (a1 * b1)), some (.sh, el p (a0 * b1 - b0 * a1) (a1 * b1)), some (.sh, .int (a1 ^ k)), some (.sh, .int (0 + (j : Int))), some (.sh, el p 0 1), some (.tnt, .lst (A.map pr)), none], _, rfl, rfl, .sh, [some (.tnt, .scr ns), some (.tnt, .lst V), some (.sh, .int p), some (.sh, .bl wide), some (.sh, .int long), some (.sh, .tup [.int a0, .int a1]), some (.sh, .tup [.int b0, .int b1]), some (.sh, .int (k : Int)), some (.sh, el p a0 a1), some (.sh, el p b0 b1), some (.sh, .int z10), some (.sh, el p (a0 * b1 + b0 * a1) (a1 * b1)), some (.sh, el p (a0 * b1 - b0 * a1) (a1 * b1)), some (.sh, .int (a1 ^ k)), some (.sh, .int (0 + (j : Int))), some (.sh, el p 0 1), some (.tnt, .lst (A.map pr)), none], ?_⟩
    generalize fn j = q at *
    generalize a0 ^ k = z1 at *
    generalize a1 ^ k = z2 at *
    unfold e5_law
    unfold pr at h ⊢
    simp [Vi.mF, Vi.finF, Vi.startE, Vi.slotsE, Vi.sSeq, Vi.sNx, Vi.sSet, Vi.setMd, Vi.sRet, Vi.sIf, Vi.sExpr, Vi.sPar, Vi.sPar3, Vi.slotOf, Vi.slotP, Vi.sAug, Vi.sAsg, Vi.sApp, Vi.sFor, Vi.vVar, Vi.vC, Vi.vOp, Vi.vOpA, Vi.v1, Vi.v2, Vi.vUn, Vi.vCB, Vi.vCall, Vi.vaNil, Vi.vaCons, Vi.vaIt, Vi.vTup, Vi.vLst, Vi.shs, Vi.vIx, Vi.itemRE, Vi.atD, Vi.itemsOf, Vi.gI, Vi.gI0, Vi.gAdd, Vi.gMul, Vi.gNeg, Vi.gLen, Vi.gInt, Vi.gAbs, Vi.gList, Vi.gGcd, Vi.gSum, Vi.gIsi, Vi.tyD, Vi.isa, Vi.argsA, Vi.argA, Vi.isSeq, Vi.flatI, Vi.flat, Vi.flatL, Vi.fitM, Vi.ksB, Vi.truth, Vi.vTru, Vi.tAndT, Vi.tOrT, Vi.tNotT, Vi.vAndV, Vi.vOrV, Vi.vNotV, Vi.vIf, Vi.lineN, Vi.γName, Vi.γTup, Vi.γCons, Vi.γNil, Vi.tgMd, Vi.tYesV, hl, h]
  have hmm : ((List.range m).map fn).map pr = (List.range m).map fun j => pr (fn j) := List.map_map
  have hr : rangeL 0 (m : Int).toNat = (List.range m).map fun (i : Nat) => D.int (0 + i) := rfl
  rw [hr] at e2
  have hle : ((List.range m).map fun (i : Nat) => D.int (0 + i)).length ≤ lineN := by
    rw [List.length_map, List.length_range]
    exact Nat.le_trans hm (by decide)
  rw [hmm, sSet_fr (vLc_ok e2 hle key)]
  rfl
theorem s21 {z10 : Int} {t14 : Slot} {A B : List (Int × Int)} (h1 : f__law_no_inverse [.int p, el p 0 1, el p a0 a1] = .rt (.bl true)) (h2 : f__law_rows [.int p, .lst (A.map pr), .lst (B.map pr), .tup [.int b0, .int b1]] = .rt (.bl true)) :
    finF ((sRet (vAndV (vCall [true, true, true] f__law_no_inverse (vaCons true (vVar 2) (vaCons true (vVar 15) (vaCons true (vVar 8) vaNil)))) (vCall [true, true, true, true] f__law_rows (vaCons true (vVar 2) (vaCons true (vVar 16) (vaCons true (vVar 17) (vaCons true (vVar 6) vaNil))))))) [some (.tnt, .scr ns), some (.own, .lst V), some (.sh, .int p), some (.sh, .bl wide), some (.sh, .int long), some (.sh, .tup [.int a0, .int a1]), some (.sh, .tup [.int b0, .int b1]), some (.sh, .int (k : Int)), some (.sh, el p a0 a1), some (.sh, el p b0 b1), some (.sh, .int z10), some (.sh, el p (a0 * b1 + b0 * a1) (a1 * b1)), some (.sh, el p (a0 * b1 - b0 * a1) (a1 * b1)), some (.sh, .int (a1 ^ k)), t14, some (.sh, el p 0 1), some (.own, .lst (A.map pr)), some (.own, .lst (B.map pr))]) = .rt (.bl true) := by
  generalize a0 ^ k = z1 at *
  generalize a1 ^ k = z2 at *
  generalize A.map pr = F at *
  generalize B.map pr = G at *
  simp [Vi.mF, Vi.finF, Vi.startE, Vi.slotsE, Vi.sSeq, Vi.sNx, Vi.sSet, Vi.setMd, Vi.sRet, Vi.sIf, Vi.sExpr, Vi.sPar, Vi.sPar3, Vi.slotOf, Vi.slotP, Vi.sAug, Vi.sAsg, Vi.sApp, Vi.sFor, Vi.vVar, Vi.vC, Vi.vOp, Vi.vOpA, Vi.v1, Vi.v2, Vi.vUn, Vi.vCB, Vi.vCall, Vi.vaNil, Vi.vaCons, Vi.vaIt, Vi.vTup, Vi.vLst, Vi.shs, Vi.vIx, Vi.itemRE, Vi.atD, Vi.itemsOf, Vi.gI, Vi.gI0, Vi.gAdd, Vi.gMul, Vi.gNeg, Vi.gLen, Vi.gInt, Vi.gAbs, Vi.gList, Vi.gGcd, Vi.gSum, Vi.gIsi, Vi.tyD, Vi.isa, Vi.argsA, Vi.argA, Vi.isSeq, Vi.flatI, Vi.flat, Vi.flatL, Vi.fitM, Vi.ksB, Vi.truth, Vi.vTru, Vi.tAndT, Vi.tOrT, Vi.tNotT, Vi.vAndV, Vi.vOrV, Vi.vNotV, Vi.vIf, Vi.lineN, Vi.γName, Vi.γTup, Vi.γCons, Vi.γNil, Vi.tgMd, Vi.tYesV, h1, h2]
end
end Ma

set_option maxRecDepth 100000
set_option linter.all false
set_option exponentiation.threshold 100000
set_option maxHeartbeats 1000000
namespace Ma
open PySem Vi Mi
theorem law_ok (ns : List Int) (hl : ns.length ≤ 63) (hb : ∀ z ∈ ns, Bt 2000000 z) : f_law [.scr ns] = .rt (.bl true) := by
  obtain ⟨vs, hvl, hs, hpool⟩ := pool_ok ns 60 (by decide) (by decide) hl hb
  have hvl' : vs.length = 60 := hvl
  obtain ⟨v0, h0, _, _⟩ := at_ok hs (i := 0) (by decide) (by omega)
  obtain ⟨v55, h55, _, _⟩ := at_ok hs (i := 55) (by decide) (by omega)
  obtain ⟨v57, h57, l57, u57⟩ := at_ok hs (i := 57) (by decide) (by omega)
  obtain ⟨v58, h58, l58, u58⟩ := at_ok hs (i := 58) (by decide) (by omega)
  obtain ⟨v7, h7, _, _⟩ := at_ok hs (i := 7) (by decide) (by omega)
  obtain ⟨v56, h56, _, _⟩ := at_ok hs (i := 56) (by decide) (by omega)
  obtain ⟨v9, h9, _, _⟩ := at_ok hs (i := 9) (by decide) (by omega)
  obtain ⟨v8, h8, _, _⟩ := at_ok hs (i := 8) (by decide) (by omega)
  obtain ⟨p, hp, hpa⟩ := prime_at (m := v0 % 6) (Int.emod_nonneg _ (by decide)) (Int.emod_lt_of_pos _ (by decide))
  obtain ⟨wide, hw⟩ : ∃ w, w = decide (v55 % 4 = 0) := ⟨_, rfl⟩
  obtain ⟨T, hT, hTb⟩ : ∃ T : Int, vOp gPow (vC (.int 10)) (vC (.int 57)) = vC (.int T) ∧ Bt 200 T := ⟨10 ^ 57, rfl, by unfold Bt; decide⟩
  obtain ⟨long, hlong⟩ : ∃ l, l = (v57 - 500) * T + v58 := ⟨_, rfl⟩
  have b57 : Bt 10 (v57 - 500) := Bt.of 1000 (by omega) (by omega) (by decide)
  have blong : Bt 3000 long := by
    rw [hlong]
    exact (((b57.mul hTb).mono (l := 210) (by decide)).add (Bt.of (k := 210) 1000 (by omega) (by omega) (by decide))).mono (by decide)
  obtain ⟨a0, a1, ha, pa⟩ := pair_ok hp hs (a := 1) (by decide) (by omega) wide
  obtain ⟨b0, b1, hbp, pb⟩ := pair_ok hp hs (a := 4) (by decide) (by omega) wide
  obtain ⟨k, hk, hk41⟩ : ∃ k : Nat, (k : Int) = v7 % (if v56 % 4 = 0 then 41 else 10) ∧ k ≤ 41 := by
    have n0 : (0 : Int) < (if v56 % 4 = 0 then 41 else 10) := by split <;> decide
    have n1 : (if v56 % 4 = 0 then 41 else 10 : Int) ≤ 41 := by split <;> decide
    have m0 := Int.emod_nonneg v7 (b := (if v56 % 4 = 0 then 41 else 10)) (by omega)
    have m1 := Int.emod_lt_of_pos v7 n0
    exact ⟨(v7 % (if v56 % 4 = 0 then 41 else 10)).toNat, by omega, by omega⟩
  obtain ⟨m, hm, hm6⟩ : ∃ m : Nat, v8 % 7 = (m : Int) ∧ m ≤ 6 := by
    have m0 := Int.emod_nonneg v8 (b := 7) (by decide)
    have m1 := Int.emod_lt_of_pos v8 (b := 7) (by decide)
    exact ⟨(v8 % 7).toNat, by omega, by omega⟩
  -- the rows' pairs
  have row : ∀ base : Int, 0 ≤ base → base ≤ 36 → ∃ fn : Nat → Int × Int, ∀ j : Nat, j < 7 → f__law_pair [.lst (vs.map .int), .int (base + 3 * (j : Int)), .int p, .bl wide] = .rt (pr (fn j)) ∧ Pk p (fn j) := fun base g0 g1 => by
    have h : ∀ j : Nat, ∃ q : Int × Int, j < 7 → f__law_pair [.lst (vs.map .int), .int (base + 3 * (j : Int)), .int p, .bl wide] = .rt (pr q) ∧ Pk p q := fun j => by
      by_cases hj : j < 7
      · obtain ⟨n, d, e1, e2⟩ := pair_ok hp hs (a := base + 3 * (j : Int)) (by omega) (by omega) wide
        exact ⟨(n, d), fun _ => ⟨e1, e2⟩⟩
      · exact ⟨(0, 0), fun z => absurd z hj⟩
    exact ⟨fun j => Classical.choose (h j), fun j hj => Classical.choose_spec (h j) hj⟩
  obtain ⟨fA, hA⟩ := row 10 (by decide) (by decide)
  obtain ⟨fB, hB⟩ := row 30 (by decide) (by decide)
  have pA : ∀ q ∈ (List.range m).map fA, Pk p q := fun q hq => by
    obtain ⟨j, hj, rfl⟩ := List.mem_map.mp hq
    exact (hA j (by have := List.mem_range.mp hj; omega)).2
  have pB : ∀ q ∈ (List.range m).map fB, Pk p q := fun q hq => by
    obtain ⟨j, hj, rfl⟩ := List.mem_map.mp hq
    exact (hB j (by have := List.mem_range.mp hj; omega)).2
  have lA : ((List.range m).map fA).length = m := by rw [List.length_map, List.length_range]
  have lB : ((List.range m).map fB).length = m := by rw [List.length_map, List.length_range]
  have hrows := rows_ok hp pA pB (f := (b0, b1)) pb (by omega) (by omega)
  have hninv := no_inv hp (n := a0) (d := a1)
  generalize vs.map D.int = V at *
  have hsm : ∀ n d, f__law_same [.int p, el p n d, el p n d] = .rt (.bl true) := fun n d => e_same hp
  have u1 := un_one hp
  have an := pa.bn.mono (l := 3000) (by decide)
  have ad := pa.bd.mono (l := 3000) (by decide)
  have bn := pb.bn.mono (l := 3000) (by decide)
  have bd := pb.bd.mono (l := 3000) (by decide)
  have uab := un_mul hp pa.un pb.un
  have sab : Bt 8000 (a1 * b1) := (pa.bd.mul pb.bd).mono (by decide)
  have hkinds := kinds_ok hp (n := a0) pa.un an ad
  have k1 := pa.bn.mulOk pb.bd (by decide)
  have k2 := pb.bn.mulOk pa.bd (by decide)
  have k3 := pa.bd.mulOk pb.bd (by decide)
  have k4 := pa.bn.mulOk pb.bn (by decide)
  have k5 := pa.bd.mulOk pb.bn (by decide)
  have e0 : startE 18 [true] [.scr ns] = [some (.tnt, .scr ns), none, none, none, none, none, none, none, none, none, none, none, none, none, none, none, none, none] := rfl
  obtain ⟨t14, e15⟩ := s15 (ns := ns) (V := V) (p := p) (wide := wide) (long := long) (b0 := b0) (b1 := b1) (k := k) pa.bn pa.bd hk41
  have e18 : ∃ z10 : Int, (sIf (vTru (vOp neD (vVar 9) (vVar 15))) (sSeq (sIf (tNotT (vTru (vCall [true, true, true] f__law_same (vaCons true (vVar 2) (vaCons true (vCall [true, true] f_invert (vaCons true (vVar 2) (vaCons true (vVar 9) vaNil))) (vaCons true (vCall [true, true, true] f__law_number (vaCons true (vVar 2) (vaCons true (vIx (vVar 6) (vC (.int 1))) (vaCons true (vIx (vVar 6) (vC (.int 0))) vaNil)))) vaNil)))))) (sRet (vC (.bl false))) sNx) (sSeq (sIf (tNotT (vTru (vCall [true, true, true] f__law_same (vaCons true (vVar 2) (vaCons true (vCall [true, true, true] f_divide (vaCons true (vVar 2) (vaCons true (vVar 8) (vaCons true (vVar 9) vaNil)))) (vaCons true (vCall [true, true, true] f__law_number (vaCons true (vVar 2) (vaCons true (vOpA gMul (vIx (vVar 5) (vC (.int 0))) (vIx (vVar 6) (vC (.int 1)))) (vaCons true (vOpA gMul (vIx (vVar 5) (vC (.int 1))) (vIx (vVar 6) (vC (.int 0)))) vaNil)))) vaNil)))))) (sRet (vC (.bl false))) sNx) (sFor (viSeq (vTup (vaCons false (vIx (vVar 5) (vC (.int 0))) (vaCons false (vVar 4) vaNil)))) (γName 10) b3_law))) sNx) [some (.tnt, .scr ns), some (.own, .lst V), some (.sh, .int p), some (.sh, .bl wide), some (.sh, .int long), some (.sh, .tup [.int a0, .int a1]), some (.sh, .tup [.int b0, .int b1]), some (.sh, .int (k : Int)), some (.sh, el p a0 a1), some (.sh, el p b0 b1), some (.sh, .int (a0 ^ k)), some (.sh, el p (a0 * b1 + b0 * a1) (a1 * b1)), some (.sh, el p (a0 * b1 - b0 * a1) (a1 * b1)), some (.sh, .int (a1 ^ k)), t14, some (.sh, el p 0 1), none, none] = .nx [some (.tnt, .scr ns), some (.own, .lst V), some (.sh, .int p), some (.sh, .bl wide), some (.sh, .int long), some (.sh, .tup [.int a0, .int a1]), some (.sh, .tup [.int b0, .int b1]), some (.sh, .int (k : Int)), some (.sh, el p a0 a1), some (.sh, el p b0 b1), some (.sh, .int z10), some (.sh, el p (a0 * b1 + b0 * a1) (a1 * b1)), some (.sh, el p (a0 * b1 - b0 * a1) (a1 * b1)), some (.sh, .int (a1 ^ k)), t14, some (.sh, el p 0 1), none, none] := by
    by_cases hz : b0 % p = 0
    · exact s18b (ns := ns) (V := V) (p := p) (wide := wide) (long := long) (a0 := a0) (a1 := a1) (b0 := b0) (b1 := b1) (k := k) (t14 := t14) (by rw [e_ne0 hp pb.un]; simp [hz])
    · exact s18a (ns := ns) (V := V) (p := p) (wide := wide) (long := long) (a0 := a0) (a1 := a1) (b0 := b0) (b1 := b1) (k := k) (t14 := t14) hsm (by rw [e_ne0 hp pb.un]; simp [hz]) k1 k5 (e_inv hp pb.un hz bn bd) (e_num hp hz (pb.bn.mono (by decide))) (e_div hp pa.un pb.un hz an ad bn bd) (e_num hp (un_mul hp pa.un hz) ((pa.bd.mul pb.bn).mono (by decide))) (e_ratio hp hz an bn) (e_num hp hz (pb.bn.mono (by decide))) (e_ratio hp hz blong bn) (e_num hp hz (pb.bn.mono (by decide)))
  obtain ⟨z10, e18⟩ := e18
  unfold f_law m_law
  rw [mF, e0, sSeq_ap, s0 hpool, SRes.bind_nx, sSeq_ap, s1 p h0 hpa, SRes.bind_nx, sSeq_ap, s2 h55 h57 h58 T hT (b57.mulOk hTb (by decide)) hw hlong, SRes.bind_nx, sSeq_ap, s3 ha hbp, SRes.bind_nx, sSeq_ap, s4 h7 h56 hk, SRes.bind_nx, sSeq_ap,
    s5 (e_num hp pa.un (pa.bd.mono (by decide))) (e_num hp pb.un (pb.bd.mono (by decide))), SRes.bind_nx, sSeq_ap, s6 h9 (check_ok hp) fields_ok hkinds, SRes.bind_nx, sSeq_ap, s7 fields_ok hkinds, SRes.bind_nx, sSeq_ap,
    s8 (fun n => e_of hp) (fun n => e_num hp u1 Bt_one) hsm, SRes.bind_nx, sSeq_ap, s9 k1 k2 k3 (e_num hp uab sab), SRes.bind_nx, sSeq_ap, s10 k1 k2 k3 (e_num hp uab sab), SRes.bind_nx, sSeq_ap,
    s11 hsm (e_add hp pa.un pb.un an ad bn bd) (e_sub hp pa.un pb.un an ad bn bd), SRes.bind_nx, sSeq_ap, s12 hsm (e_neg hp pa.un) (e_num hp pa.un (pa.bd.mono (by decide))), SRes.bind_nx, sSeq_ap,
    s13 hsm k4 k3 (e_mul hp pa.un pb.un an ad bn bd) (e_num hp uab sab), SRes.bind_nx, sSeq_ap, s14, SRes.bind_nx, sSeq_ap, e15, SRes.bind_nx, sSeq_ap,
    s16 hsm (e_pow hp pa.un pa.bn pa.bd k hk41) (e_num hp (un_pow hp pa.un k) ((Bt_pow pa.bd k).mono (by omega))), SRes.bind_nx, sSeq_ap, s17 (e_num hp u1 Bt_one), SRes.bind_nx, sSeq_ap, e18, SRes.bind_nx, sSeq_ap,
    s19 h8 hm hm6 fA fun j hj => (hA j hj).1, SRes.bind_nx, sSeq_ap, s20 lA hm6 fB fun j hj => (hB j hj).1, SRes.bind_nx]
  exact s21 hninv hrows
end Ma

namespace Fin
open PySem PySem.Spec PyProof.Rows L2 Vi Hd Mi De
theorem bits_bt {z : Int} (h : Builtin.Int.intBits z ≤ 1048576) : Bt 2000000 z := by
  unfold Builtin.Int.intBits at h
  unfold Bt
  by_cases hz : z = 0
  · subst hz
    exact Nat.two_pow_pos _
  · have h2 : z.natAbs.log2 + 1 ≤ 1048576 := by simpa [hz] using h
    exact Nat.lt_of_lt_of_le Nat.lt_log2_self (Nat.pow_le_pow_right (by decide) (by omega))
theorem facts {P : Program} {w : World} {K : PySem.W.Frag} {mg : Str → Option Value} {fa : Addr} {h : Heap} (X : K.In h) (G : h.Ns mainGlobals mg) (hfa : mg ("law" : Str) = some (.ref fa)) (c : He.SaysD Hd.fa Hd.fn K ∧ Hd.ex K = true) :
    ∃ (fd : FuncData), (∀ (s : Shared) (u : Value), BindsTo s fd ⟨[u], []⟩ [("script", u)]) ∧ ∀ base : Heap, FnOk P w K mg base (L2.CX P w) 6 fa fd ["script"] (spV K [true] f_law) := by
  have T : T0 K mg := ⟨⟨h, X, G⟩, c.1, c.2⟩
  have e := hfa.symm.trans (g_law T)
  cases e
  obtain ⟨fd, F⟩ := fd_law T
  have b := FunD.bindsA (ps := ["script"]) F fun _ _ _ _ _ _ us hl => match us, hl with | [_], _ => rfl
  exact ⟨fd, fun s u => b s [u] rfl, fun base => fn_okV (bs := [true]) (m := m_law) (N := N_law) (k := 5) F sc_law rfl (body_law T)⟩
end Fin
open PySem PySem.W PySem.Calls PyProof.Rows
theorem PySem.Challenge.cw_manifoldzeros_k00_numbers_of_a_field_holds : PySem.Challenge.rw_manifoldzeros_k00_numbers_of_a_field.Holds := by
  w_on; o_law
  refine HandSHeadRun.head_imp (r := OpenLaw.row PySem.Challenge.rw_manifoldzeros_k00_numbers_of_a_field) (q := Hd.qv) (H := Hd.hk) (ob := Hd.ob) (M := 8000) (loose := Hd.nms) (d := HandSHeadRun.topDef (OpenLaw.row PySem.Challenge.rw_manifoldzeros_k00_numbers_of_a_field).prog 34) (kwd := []) Hd.ob_eq
    Hd.run (by kernel_rfl) (by kernel_rfl) (by kernel_rfl) (by rfl) (by first | assumption | decide +kernel) (by decide +kernel) ⟨rfl, rfl, rfl, rfl, rfl, by decide +kernel⟩ ?hw ?hc
  case hw => w_witness2
  case hc =>
    refine Vi.walk_end (l := PySem.Challenge.rw_manifoldzeros_k00_numbers_of_a_field) (n := 63) (k := 6) (x := "script") rfl (by decide) (by kernel_rfl) ⟨rfl, by decide, by decide⟩ ?F
    intro w mg fa h Y hG hmg0
    obtain ⟨K, KX, c⟩ := Y
    have hmg : mg ("law" : PySem.Str) = some (.ref fa) := by
      have e : (HandSHeadRun.topDef (OpenLaw.row PySem.Challenge.rw_manifoldzeros_k00_numbers_of_a_field).prog 34).name = ("law" : PySem.Str) := by kernel_rfl
      rw [← e]
      exact hmg0
    obtain ⟨fd, hb, hF⟩ := Fin.facts (P := (PySem.Challenge.rw_manifoldzeros_k00_numbers_of_a_field).prog) (w := w) KX hG hmg c
    exact ⟨K, fd, Vi.spV K [true] Mi.f_law, KX, hb, fun H a ns hl hbits hO hS => Vi.law_sp1 (Ma.law_ok ns hl fun z hz => Fin.bits_bt (hbits z hz)) H a hO hS, fun base _ _ => hF base⟩
