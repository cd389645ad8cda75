import PyProof.Rows.All
import Wide.All
import OpenK.AllK
import Wide.FinOn
import HandS.ForMost
import HandS.Wide
import HandS.Style
import HandS.Small
import HandS.Defaults
import HandS.TryOnly
import HandS.TupAny
import HandS.Text
import PyProof.StrOps2
import HandS.Star
import HandS.NoneIn
import HandS.Iter
import HandS.HeadHook4
import KE.DataMinMax
import HandS.RaiseMore
import HandS.Zip
import HandS.Strs
import HandS.HeadHook1
import HandS.Head0
import HandS.Head1
import HandS.Head2
import HandS.HeadEnd
import PyProof.Draws
import PyProof.EnumMake
import PyProof.EnumIter
import HandS.WideBits
import HandS.IsInst
import HandS.Conv
import HandS.Replace
import HandS.ReplaceList
import HandS.ReplaceDef
import HandS.ReplaceLit
import HandS.TupLe
import HandS.Dict
import HandS.Deep
import PyProof.RulesMatch
import HandS.More
import KE.KExcSuper
import HandS.ExcInit
import HandS.ExcField
import HandS.ExcValue
import HandS.ExcIs
import KE.KExcIs
import HandS.SetFor
import HandS.Property
import HandS.MakeKw
import KE.KUnpackStar
import HandS.SuiteRaise
import HandS.RaiseFrom
import KE.IntTextLaws
import KE.KStateDown
import Lean
import PySem.Challenge.RW_lineends_k52_forms_read
set_option Elab.async false
set_option linter.all false
set_option maxRecDepth 100000
/-! text IX1 -/
set_option maxHeartbeats 1000000
/-! The value layer: data trees for Python values over the abstract heap, a value semantics whose pieces are sound for the readings. -/
namespace IX
open PySem PySem.Spec PyProof.Rows L2

/-! ### heaps that grow -/
abbrev Ex (H H' : Hp) : Prop := Same H H'
theorem Ex.refl (H : Hp) : Ex H H := fun _ _ h => h
theorem Ex.tr {H H1 H2 : Hp} (a : Ex H H1) (b : Ex H1 H2) : Ex H H2 := fun x o h => b x o (a x o h)
theorem Ex.new {H : Hp} {p : Addr} {o : HO} (h : H p = none) : Ex H (upd H p o) := fun a u e => by
  rw [upd_ne (ne_of_none e h)]
  exact e
theorem Ex.non {H H' : Hp} (e : Ex H H') {p : Addr} (h : H' p = none) : H p = none := Same.free e h
theorem some_of_ne {H : Hp} {a : Addr} (h : H a ≠ none) : ∃ o, H a = some o := by
  cases e : H a with
  | none => exact absurd e h
  | some o => exact ⟨o, rfl⟩
theorem ne_of_some {H : Hp} {a : Addr} {o : HO} (h : H a = some o) : H a ≠ none := by
  rw [h]
  exact fun z => nomatch z

/-! ### tuples: of the heap, of the module's constants -/
class KC where
  K : PySem.W.Frag
def KTup [KC] (a : Addr) (xs : List V) : Prop := ∃ (o : Obj) (its : Array Value) (n : Nat), KC.K.lookup a = some o ∧ o.cls = .type "tuple" ∧ o.data = .seq its n ∧ its.size ≤ sizeLine ∧ Vals xs its.toList ∧ o.dict = none
def TpAt [KC] (F : Hp) (a : Addr) (xs : List V) : Prop := F a = some (.tup xs) ∨ KTup a xs
class KX [KC] (X : Cx) : Prop where
  eq : X.K = KC.K
instance kx_blk [KC] {X : Cx} [h : KX X] {s : Shared} {H : Hp} {scope : Scope} {cenv : Env} {fp : List Addr} : KX (X.blk s H scope cenv fp) := ⟨h.eq⟩
variable [KC]
theorem TpAt.mono {F F' : Hp} {a : Addr} {xs : List V} (h : TpAt F a xs) (e : Ex F F') : TpAt F' a xs := h.elim (fun h => .inl (e _ _ h)) .inr
theorem TpAt.sqK {F H : Hp} {a : Addr} {xs : List V} (h : TpAt F a xs) (e : Ex F H) : SqT KC.K H a xs := h.elim (fun h => .inl (.inl (e _ _ h))) fun ⟨o, its, n, h1, h2, h3, h4, h5, _⟩ => .inr ⟨o, its, n, h1, h2, h3, h4, h5⟩
theorem TpAt.sq {X : Cx} [hx : KX X] {F H : Hp} {a : Addr} {xs : List V} (h : TpAt F a xs) (e : Ex F H) : SqT X.K H a xs := by
  rw [hx.eq]; exact h.sqK e

/-! ### data at a value -/
mutual
inductive Rp (F : Hp) : V → PyData → Prop
  | non : Rp F .non .none
  | bl (b : Bool) : Rp F (.bl b) (.bool b)
  | int (i : Int) : Rp F (.int i) (.int i)
  | str (x : Str) : Rp F (.str x) (.str x)
  | lst {a : Addr} {vs : List V} {ds : List PyData} : F a = some (.lst vs) → RpA F vs ds → Rp F (.ref a) (.list ds)
  | tup {a : Addr} {vs : List V} {ds : List PyData} : TpAt F a vs → RpA F vs ds → Rp F (.ref a) (.tuple ds)
inductive RpA (F : Hp) : List V → List PyData → Prop
  | nil : RpA F [] []
  | cons {v : V} {vs : List V} {d : PyData} {ds : List PyData} : Rp F v d → RpA F vs ds → RpA F (v :: vs) (d :: ds)
end
section
variable {F F' : Hp}
mutual
theorem Rp.mono (e : Ex F F') : ∀ (d : PyData) (v : V), Rp F v d → Rp F' v d
  | .none, _, h => by cases h; exact .non
  | .bool _, _, h => by cases h; exact .bl _
  | .int _, _, h => by cases h; exact .int _
  | .str _, _, h => by cases h; exact .str _
  | .list ds, _, h => by
    cases h with
    | lst a r => exact .lst (e _ _ a) (RpA.mono e ds _ r)
  | .tuple ds, _, h => by
    cases h with
    | tup a r => exact .tup (a.mono e) (RpA.mono e ds _ r)
  | .dict _, _, h => by cases h
theorem RpA.mono (e : Ex F F') : ∀ (ds : List PyData) (vs : List V), RpA F vs ds → RpA F' vs ds
  | [], _, h => by cases h; exact .nil
  | d :: ds, _, h => by
    cases h with
    | cons a r => exact .cons (Rp.mono e d _ a) (RpA.mono e ds _ r)
end
mutual
theorem Rp.dp : ∀ (d : PyData) (v : V), Rp F v d → Dp KC.K F v d
  | .none, _, h => by cases h; exact .non
  | .bool _, _, h => by cases h; exact .bl _
  | .int _, _, h => by cases h; exact .int _
  | .str _, _, h => by cases h; exact .str _
  | .list ds, _, h => by
    cases h with
    | lst a r => exact .lst (SqL.of a) (RpA.dp ds _ r)
  | .tuple ds, _, h => by
    cases h with
    | tup a r => exact .tup (a.sqK (Ex.refl _)) (RpA.dp ds _ r)
  | .dict _, _, h => by cases h
theorem RpA.dp : ∀ (ds : List PyData) (vs : List V), RpA F vs ds → DpAll KC.K F vs ds
  | [], _, h => by cases h; exact .nil
  | d :: ds, _, h => by
    cases h with
    | cons a r => exact .cons (Rp.dp d _ a) (RpA.dp ds _ r)
end
theorem RpA.length : ∀ {vs : List V} {ds : List PyData}, RpA F vs ds → vs.length = ds.length
  | _, _, .nil => rfl
  | _, _, .cons _ r => by rw [List.length_cons, List.length_cons, r.length]
theorem RpA.get : ∀ {vs : List V} {ds : List PyData} {i : Nat} {d : PyData}, RpA F vs ds → ds[i]? = some d → ∃ v, vs[i]? = some v ∧ Rp F v d
  | _, _, _, _, .nil, e => by simp at e
  | _, _, 0, _, .cons r _, e => by simp at e; subst e; exact ⟨_, rfl, r⟩
  | _, _, i + 1, d, .cons _ t, e => by
    obtain ⟨u, h1, h2⟩ := RpA.get (i := i) (d := d) t (by simpa using e)
    exact ⟨u, by simpa using h1, h2⟩
theorem RpA.getV : ∀ {vs : List V} {ds : List PyData} {i : Nat} {v : V}, RpA F vs ds → vs[i]? = some v → ∃ d, ds[i]? = some d ∧ Rp F v d
  | _, _, _, _, .nil, e => by simp at e
  | _, _, 0, _, .cons r _, e => by simp at e; subst e; exact ⟨_, rfl, r⟩
  | _, _, i + 1, d, .cons _ t, e => by
    obtain ⟨u, h1, h2⟩ := RpA.getV (i := i) (v := d) t (by simpa using e)
    exact ⟨u, by simpa using h1, h2⟩
theorem RpA.append : ∀ {vs ws : List V} {ds es : List PyData}, RpA F vs ds → RpA F ws es → RpA F (vs ++ ws) (ds ++ es)
  | _, _, _, _, .nil, s => s
  | _, _, _, _, .cons r t, s => .cons r (RpA.append t s)
theorem RpA.set {v : V} {d : PyData} (r : Rp F v d) : ∀ {vs : List V} {ds : List PyData} (i : Nat), RpA F vs ds → RpA F (vs.set i v) (ds.set i d)
  | _, _, _, .nil => .nil
  | _, _, 0, .cons _ t => .cons r t
  | _, _, i + 1, .cons q t => .cons q (RpA.set r i t)
theorem RpA.take : ∀ {vs : List V} {ds : List PyData} (n : Nat), RpA F vs ds → RpA F (vs.take n) (ds.take n)
  | _, _, 0, _ => .nil
  | _, _, _ + 1, .nil => .nil
  | _, _, n + 1, .cons r t => .cons r (RpA.take n t)
theorem RpA.drop : ∀ {vs : List V} {ds : List PyData} (n : Nat), RpA F vs ds → RpA F (vs.drop n) (ds.drop n)
  | _, _, 0, r => r
  | _, _, _ + 1, .nil => .nil
  | _, _, n + 1, .cons _ t => RpA.drop n t
theorem RpA.eraseIdx : ∀ {vs : List V} {ds : List PyData} (n : Nat), RpA F vs ds → RpA F (vs.eraseIdx n) (ds.eraseIdx n)
  | _, _, _, .nil => .nil
  | _, _, 0, .cons _ t => t
  | _, _, n + 1, .cons r t => .cons r (RpA.eraseIdx n t)
theorem RpA.reverse : ∀ {vs : List V} {ds : List PyData}, RpA F vs ds → RpA F vs.reverse ds.reverse
  | _, _, .nil => .nil
  | _, _, .cons r t => by
    rw [List.reverse_cons, List.reverse_cons]
    exact (RpA.reverse t).append (.cons r .nil)
theorem RpA.rep {vs : List V} {ds : List PyData} (h : RpA F vs ds) : ∀ k : Nat, RpA F (List.replicate k vs).flatten (List.replicate k ds).flatten
  | 0 => .nil
  | k + 1 => by
    rw [List.replicate_succ, List.replicate_succ, List.flatten_cons, List.flatten_cons]
    exact h.append (RpA.rep h k)
theorem RpA.dropLast {vs : List V} {ds : List PyData} (h : RpA F vs ds) : RpA F vs.dropLast ds.dropLast := by
  rw [List.dropLast_eq_take, List.dropLast_eq_take, h.length]
  exact h.take _
theorem RpA.ints : ∀ (ns : List Int), RpA F (ns.map V.int) (ns.map PyData.int)
  | [] => .nil
  | n :: ns => .cons (.int n) (RpA.ints ns)
theorem RpA.strs : ∀ (ns : List Str), RpA F (ns.map V.str) (ns.map PyData.str)
  | [] => .nil
  | n :: ns => .cons (.str n) (RpA.strs ns)
theorem RpA.of_ints : ∀ {vs : List V} {ns : List Int}, RpA F vs (ns.map PyData.int) → vs = ns.map V.int
  | _, [], h => by cases h; rfl
  | _, n :: ns, h => by
    cases h with
    | cons a r =>
      cases a
      rw [List.map_cons, RpA.of_ints r]
theorem RpA.of_strs : ∀ {vs : List V} {ns : List Str}, RpA F vs (ns.map PyData.str) → vs = ns.map V.str
  | _, [], h => by cases h; rfl
  | _, n :: ns, h => by
    cases h with
    | cons a r =>
      cases a
      rw [List.map_cons, RpA.of_strs r]
end

/-- data at a value that may be read now: frozen, or a list that stands in the heap over frozen items -/
def RpL (F H : Hp) (v : V) (d : PyData) : Prop := Rp F v d ∨ ∃ p vs ds, v = .ref p ∧ d = .list ds ∧ H p = some (.lst vs) ∧ RpA F vs ds
inductive RpLA (F H : Hp) : List V → List PyData → Prop
  | nil : RpLA F H [] []
  | cons {v : V} {vs : List V} {d : PyData} {ds : List PyData} : RpL F H v d → RpLA F H vs ds → RpLA F H (v :: vs) (d :: ds)
section
variable {F F' H H' : Hp} {v : V} {d : PyData}
theorem RpL.mono (a : Ex F F') (b : Ex H H') (h : RpL F H v d) : RpL F' H' v d := by
  rcases h with h | ⟨p, vs, ds, e1, e2, e3, r⟩
  · exact .inl (Rp.mono a _ _ h)
  · exact .inr ⟨p, vs, ds, e1, e2, b _ _ e3, RpA.mono a _ _ r⟩
theorem RpL.full (a : Ex F H) (h : RpL F H v d) : Rp H v d := by
  rcases h with h | ⟨p, vs, ds, e1, e2, e3, r⟩
  · exact Rp.mono a _ _ h
  · subst e1 e2
    exact .lst e3 (RpA.mono a _ _ r)
theorem RpL.dp {X : Cx} [hx : KX X] (a : Ex F H) (h : RpL F H v d) : Dp X.K H v d := by
  rw [hx.eq]; exact Rp.dp _ _ (h.full a)
theorem RpL.int {i : Int} (h : RpL F H v (.int i)) : v = .int i := by
  rcases h with h | ⟨_, _, _, _, e, _⟩
  · cases h; rfl
  · cases e
theorem RpL.str {i : Str} (h : RpL F H v (.str i)) : v = .str i := by
  rcases h with h | ⟨_, _, _, _, e, _⟩
  · cases h; rfl
  · cases e
theorem RpL.bl {i : Bool} (h : RpL F H v (.bool i)) : v = .bl i := by
  rcases h with h | ⟨_, _, _, _, e, _⟩
  · cases h; rfl
  · cases e
theorem RpL.non (h : RpL F H v .none) : v = .non := by
  rcases h with h | ⟨_, _, _, _, e, _⟩
  · cases h; rfl
  · cases e
theorem RpL.tup {ds : List PyData} (h : RpL F H v (.tuple ds)) : ∃ a vs, v = .ref a ∧ TpAt F a vs ∧ RpA F vs ds := by
  rcases h with h | ⟨_, _, _, _, e, _⟩
  · cases h with
    | tup a r => exact ⟨_, _, rfl, a, r⟩
  · cases e
theorem RpL.lst (a : Ex F H) {ds : List PyData} (h : RpL F H v (.list ds)) : ∃ a vs, v = .ref a ∧ H a = some (.lst vs) ∧ RpA F vs ds := by
  rcases h with h | ⟨p, vs, ds', e1, e2, e3, r⟩
  · cases h with
    | lst e r => exact ⟨_, _, rfl, a _ _ e, r⟩
  · cases e2
    exact ⟨p, vs, e1, e3, r⟩
end

/-! ### slots -/
/-- a name's contents: not set, frozen data, a list of its own (par: handed in by reference), a foreign object with its state -/
inductive Slot where
  | und
  | pur (d : PyData)
  | own (par : Bool) (ds : List PyData)
  | ext (par : Bool) (t : Nat) (g : PyData)
def Slot.par : Slot → Bool
  | .own p _ => p
  | .ext p _ _ => p
  | _ => false
abbrev SEnv := List Slot
structure ExtK where
  rel : Nat → Hp → Hp → (Addr → Prop) → V → PyData → Prop
  mono : ∀ {t F F' H H' S S' v g}, rel t F H S v g → Ex F F' → (∀ a, S a → S' a) → (∀ a, S a → H' a = H a) → rel t F' H' S' v g
variable (E : ExtK)
def Sl (F H : Hp) (S : Addr → Prop) (v : V) : Slot → Prop
  | .und => True
  | .pur d => Rp F v d
  | .own _ ds => ∃ p vs, v = .ref p ∧ S p ∧ H p = some (.lst vs) ∧ RpA F vs ds
  | .ext _ t g => E.rel t F H S v g
theorem Sl.mono {F F' H H' : Hp} {S S' : Addr → Prop} {v : V} {s : Slot} (h : Sl E F H S v s) (f : Ex F F') (hS : ∀ a, S a → S' a) (hH : ∀ a, S a → H' a = H a) : Sl E F' H' S' v s := by
  cases s with
  | und => trivial
  | pur d => exact Rp.mono f _ _ h
  | own p ds =>
    obtain ⟨p, vs, e, hs, hp, r⟩ := h
    exact ⟨p, vs, e, hS p hs, (hH p hs).trans hp, RpA.mono f _ _ r⟩
  | ext p t g => exact E.mono h f hS hH
abbrev Ow := Addr → Option Nat
/-- what a body leaves as it is: F0 frozen at the entry, H0 the entry's heap, B what of it is not handed in by reference; args the values handed in -/
structure Fra where
  F0 : Hp
  H0 : Hp
  B : Hp
  args : List V
structure Rel (fr : Fra) (F H : Hp) (ow : Ow) (env : SEnv) (σ : L2.St) : Prop where
  fh : Ex F H
  f0 : Ex fr.F0 F
  bh : Ex fr.B H
  fb : ∀ a o, fr.B a = some o → F a = fr.F0 a
  dom : ∀ a, fr.H0 a ≠ none → H a ≠ none
  sep : ∀ a i, ow a = some i → F a = none ∧ fr.B a = none ∧ H a ≠ none
  len : env.length = σ.length
  sl : ∀ (i : Nat) (s : Slot), env[i]? = some s → s = .und ∨ ∃ v, σ[i]? = some (some v) ∧ Sl E F H (fun a => ow a = some i) v s
  pr : ∀ (i : Nat) (s : Slot), env[i]? = some s → s.par = true → ∃ v, fr.args[i]? = some v ∧ σ[i]? = some (some v)
structure Grow (F H : Hp) (ow : Ow) (F' H' : Hp) (ow' : Ow) : Prop where
  f : Ex F F'
  h : ∀ a o, H a = some o → ow a = none → H' a = some o
  dom : ∀ a, H a ≠ none → H' a ≠ none
  fz : ∀ a, H a ≠ none → ow a = none → F' a = F a ∧ ow' a = none
/-- a result: its own objects are new, nobody's, not frozen -/
def Res (fr : Fra) (H0 : Hp) (ow0 : Ow) (F H : Hp) (ow : Ow) (v : V) (r : Slot) : Prop :=
  r.par = false ∧ r ≠ .und ∧ ∃ S : Addr → Prop, (∀ a, S a → ow a = none ∧ F a = none ∧ fr.B a = none ∧ H a ≠ none ∧ (H0 a ≠ none → ow0 a ≠ none)) ∧ Sl E F H S v r
section
variable {E} {fr : Fra} {F F' F'' H H' H'' : Hp} {ow ow' ow'' : Ow} {env env' : SEnv} {σ : L2.St} {v : V} {r : Slot}
theorem Grow.refl : Grow F H ow F H ow := ⟨Ex.refl _, fun _ _ h _ => h, fun _ h => h, fun _ _ h => ⟨rfl, h⟩⟩
theorem Grow.tr (a : Grow F H ow F' H' ow') (b : Grow F' H' ow' F'' H'' ow'') : Grow F H ow F'' H'' ow'' where
  f := a.f.tr b.f
  h := fun x o h n => by
    obtain ⟨_, n'⟩ := a.fz x (ne_of_some h) n
    exact b.h x o (a.h x o h n) n'
  dom := fun x h => b.dom x (a.dom x h)
  fz := fun x h n => by
    obtain ⟨e, n'⟩ := a.fz x h n
    obtain ⟨e', n''⟩ := b.fz x (a.dom x h) n'
    exact ⟨e'.trans e, n''⟩
theorem Res.mono {H0 : Hp} {ow0 : Ow} (h : Res E fr H0 ow0 F H ow v r) (g : Grow F H ow F' H' ow') : Res E fr H0 ow0 F' H' ow' v r := by
  obtain ⟨h1, h2, S, hS, hs⟩ := h
  refine ⟨h1, h2, S, fun a sa => ?_, hs.mono E g.f (fun _ z => z) fun a sa => ?_⟩
  · obtain ⟨n, f, b, hh, nw⟩ := hS a sa
    obtain ⟨e, n'⟩ := g.fz a hh n
    exact ⟨n', e.trans f, b, g.dom a hh, nw⟩
  · obtain ⟨n, f, b, hh, nw⟩ := hS a sa
    obtain ⟨o, ho⟩ := some_of_ne hh
    rw [ho]
    exact g.h a o ho n
theorem Res.start {H0 : Hp} {ow0 : Ow} {F0 F1 H1 : Hp} {ow1 : Ow} (h : Res E fr H1 ow1 F H ow v r) (g : Grow F0 H0 ow0 F1 H1 ow1) : Res E fr H0 ow0 F H ow v r := by
  obtain ⟨h1, h2, S, hS, hs⟩ := h
  refine ⟨h1, h2, S, fun a sa => ?_, hs⟩
  obtain ⟨n, f, b, hh, nw⟩ := hS a sa
  refine ⟨n, f, b, hh, fun z z' => ?_⟩
  exact nw (g.dom a z) (g.fz a z z').2
theorem Res.pur {H0 : Hp} {ow0 : Ow} {d : PyData} (h : Rp F v d) : Res E fr H0 ow0 F H ow v (.pur d) := ⟨rfl, (fun z => nomatch z), fun _ => False, fun _ z => z.elim, h⟩
/-- objects are laid; what was there stays, frozen as it was -/
structure Alloc (F H F' H' : Hp) : Prop where
  f : Ex F F'
  h : Ex H H'
  fh : Ex F' H'
  fz : ∀ a, H a ≠ none → F' a = F a
theorem Alloc.refl (e : Ex F H) : Alloc F H F H := ⟨Ex.refl _, Ex.refl _, e, fun _ _ => rfl⟩
theorem Alloc.tr (a : Alloc F H F' H') (b : Alloc F' H' F'' H'') : Alloc F H F'' H'' :=
  ⟨a.f.tr b.f, a.h.tr b.h, b.fh, fun x h => by
    obtain ⟨o, ho⟩ := some_of_ne h
    exact (b.fz x (ne_of_some (a.h x o ho))).trans (a.fz x h)⟩
/-- a new frozen object -/
theorem Alloc.new {p : Addr} {o : HO} (e : Ex F H) (hp : H p = none) : Alloc F H (upd F p o) (upd H p o) := by
  have fp : F p = none := e.non hp
  refine ⟨Ex.new fp, Ex.new hp, fun a u q => ?_, fun a h => ?_⟩
  · by_cases z : a = p
    · subst z; rw [upd_same] at q ⊢; exact q
    · rw [upd_ne z] at q ⊢; exact e a u q
  · exact upd_ne (fun z => by subst z; exact h hp)
/-- a new object of ours -/
theorem Alloc.tmp {p : Addr} {o : HO} (e : Ex F H) (hp : H p = none) : Alloc F H F (upd H p o) :=
  ⟨Ex.refl _, Ex.new hp, e.tr (Ex.new hp), fun _ _ => rfl⟩
theorem Rel.alloc (R : Rel E fr F H ow env σ) (a : Alloc F H F' H') : Rel E fr F' H' ow env σ where
  fh := a.fh
  f0 := R.f0.tr a.f
  bh := R.bh.tr a.h
  fb := fun x o h => (a.fz x (ne_of_some (R.bh x o h))).trans (R.fb x o h)
  dom := fun x h => by
    obtain ⟨o, ho⟩ := some_of_ne (R.dom x h)
    exact ne_of_some (a.h x o ho)
  sep := fun x i h => by
    obtain ⟨h1, h2, h3⟩ := R.sep x i h
    obtain ⟨o, ho⟩ := some_of_ne h3
    exact ⟨(a.fz x h3).trans h1, h2, ne_of_some (a.h x o ho)⟩
  len := R.len
  sl := fun i s h => by
    rcases R.sl i s h with z | ⟨v, e, q⟩
    · exact .inl z
    · refine .inr ⟨v, e, q.mono E a.f (fun _ z => z) fun x hx => ?_⟩
      obtain ⟨_, _, h3⟩ := R.sep x i hx
      obtain ⟨o, ho⟩ := some_of_ne h3
      rw [ho]
      exact a.h x o ho
  pr := R.pr
theorem Rel.free (R : Rel E fr F H ow env σ) {p : Addr} (h : H p = none) : ow p = none := by
  cases e : ow p with
  | none => rfl
  | some i => exact absurd h (R.sep p i e).2.2
theorem Alloc.grow (R : Rel E fr F H ow env σ) (a : Alloc F H F' H') : Grow F H ow F' H' ow :=
  ⟨a.f, fun x o h _ => a.h x o h, fun x h => by
    obtain ⟨o, ho⟩ := some_of_ne h
    exact ne_of_some (a.h x o ho), fun x h n => ⟨a.fz x h, n⟩⟩
/-- what an operation on values gives: data, or a new list -/
def ResA (H F' H' : Hp) (v : V) : Slot → Prop
  | .pur d => Rp F' v d
  | .own false ds => ∃ p vs, v = .ref p ∧ H p = none ∧ F' p = none ∧ H' p = some (.lst vs) ∧ RpA F' vs ds
  | _ => False
def OutV (F H : Hp) (r : Slot) (Q : VK) : Prop := ∀ v F' H', Alloc F H F' H' → ResA H F' H' v r → Q v H'
theorem ResA.res (R : Rel E fr F H ow env σ) (a : Alloc F H F' H') (h : ResA H F' H' v r) : Res E fr H ow F' H' ow v r := by
  cases r with
  | und => exact (show False from h).elim
  | pur d => exact Res.pur h
  | own p ds =>
    cases p with
    | true => exact (show False from h).elim
    | false =>
      obtain ⟨p, vs, e, hp, fp, hp', r⟩ := h
      refine ⟨rfl, (fun z => nomatch z), fun x => x = p, fun x hx => ?_, p, vs, e, rfl, hp', r⟩
      subst hx
      exact ⟨R.free hp, fp, R.bh.non hp, ne_of_some hp', fun z => absurd hp z⟩
  | ext p t g => exact (show False from h).elim
theorem OutV.data {d : PyData} {Q : VK} (k : OutV F H (.pur d) Q) (e : Ex F H) (h : Rp F v d) : Q v H := k v F H (Alloc.refl e) h
theorem OutV.newL {ds : List PyData} {vs : List V} {Q : VK} (k : OutV F H (.own false ds) Q) (e : Ex F H) (h : RpA F vs ds) {p : Addr} (hp : H p = none) : Q (.ref p) (upd H p (.lst vs)) :=
  k _ _ _ (Alloc.tmp e hp) ⟨p, vs, rfl, hp, e.non hp, upd_same, h⟩
theorem OutV.newT {ds : List PyData} {vs : List V} {Q : VK} (k : OutV F H (.pur (.tuple ds)) Q) (e : Ex F H) (h : RpA F vs ds) {p : Addr} (hp : H p = none) : Q (.ref p) (upd H p (.tup vs)) :=
  k _ _ _ (Alloc.new e hp) (.tup (.inl upd_same) (RpA.mono (Ex.new (e.non hp)) _ _ h))
end
end IX

/-! text IX2 -/
set_option maxHeartbeats 1000000
namespace L2
open PySem PySem.Spec
theorem PE.weak {X : Cx} {e : Expr} {t t' : TE} (h : PE X e t) (w : ∀ σ H Q, t' σ H Q → t σ H Q) : PE X e t' := ⟨fun pins s σ H Q I k => h.run pins s σ H Q I (w σ H Q k)⟩
theorem PT.weak {X : Cx} {e : Expr} {t t' : TT} (h : PT X e t) (w : ∀ σ H Q, t' σ H Q → t σ H Q) : PT X e t' := ⟨fun pins s σ H Q I k => h.run pins s σ H Q I (w σ H Q k)⟩
theorem PW.weak {X : Cx} {e : Expr} {t t' : TT} (h : PW X e t) (w : ∀ σ H Q, t' σ H Q → t σ H Q) : PW X e t' := ⟨fun wh pins s σ H Q I k => h.run wh pins s σ H Q I (w σ H Q k)⟩
theorem PA.weak {X : Cx} {e : List Expr} {t t' : TA} (h : PA X e t) (w : ∀ σ H Q, t' σ H Q → t σ H Q) : PA X e t' := ⟨fun pos pins s σ H Q I k => h.run pos pins s σ H Q I (w σ H Q k)⟩
theorem PS.weak {X : Cx} {e : Stmt} {t t' : TS} (h : PS X e t) (w : ∀ D σ H, t' D σ H → t D σ H) : PS X e t' := ⟨fun pins s σ H D I k => h.run pins s σ H D I (w D σ H k)⟩
theorem PSs.weak {X : Cx} {e : List Stmt} {t t' : TS} (h : PSs X e t) (w : ∀ D σ H, t' D σ H → t D σ H) : PSs X e t' := ⟨fun pins s σ H D I k => h.run pins s σ H D I (w D σ H k)⟩
theorem PG.weak {X : Cx} {e : Expr} {t t' : TG} (h : PG X e t) (w : ∀ v σ H Q, t' v σ H Q → t v σ H Q) : PG X e t' := ⟨fun pins s σ H v u Q I r k => h.run pins s σ H v u Q I r (w v σ H Q k)⟩
theorem PI.weak {X : Cx} {tg e : Expr} {t t' : TI} (h : PI X tg e t) (w : ∀ σ H R, t' σ H R → t σ H R) : PI X tg e t' := ⟨fun pins s σ H R I k => h.run pins s σ H R I (w σ H R k)⟩
theorem PO.weak {X : Cx} {e : Option Expr} {t t' : TO} (h : PO X e t) (w : ∀ σ H Q, t' σ H Q → t σ H Q) : PO X e t' := ⟨fun pins s σ H Q I k => h.run pins s σ H Q I (w σ H Q k)⟩

end L2
namespace IX
open PySem PySem.Spec PyProof.Rows L2
variable [KC]

abbrev EvE := SEnv → Option (Slot × SEnv)
abbrev EvB := SEnv → Option (PyData × SEnv)
abbrev EvT := SEnv → Option (Bool × SEnv)
abbrev EvA := SEnv → Option (List PyData × SEnv)

/-- data at a value: frozen, or a list over frozen items; st: a list that is no name's -/
def RpX (st : Bool) (F H : Hp) (ow : Ow) (v : V) (d : PyData) : Prop := Rp F v d ∨ ∃ p vs ds, v = .ref p ∧ d = .list ds ∧ H p = some (.lst vs) ∧ RpA F vs ds ∧ (st = true → ow p = none)
theorem RpX.l {st : Bool} {F H : Hp} {ow : Ow} {v : V} {d : PyData} (h : RpX st F H ow v d) : RpL F H v d := by
  rcases h with h | ⟨p, vs, ds, e1, e2, e3, r, _⟩
  · exact .inl h
  · exact .inr ⟨p, vs, ds, e1, e2, e3, r⟩
theorem RpX.mono {st q : Bool} {F H F' H' : Hp} {ow ow' : Ow} {v : V} {d : PyData} (h : RpX st F H ow v d) (g : Grow F H ow F' H' ow') (hq : q = true → Ex H H') (c : (q || st) = true) : RpL F' H' v d := by
  rcases h with h | ⟨p, vs, ds, e1, e2, e3, r, n⟩
  · exact .inl (Rp.mono g.f _ _ h)
  · refine .inr ⟨p, vs, ds, e1, e2, ?_, RpA.mono g.f _ _ r⟩
    cases q with
    | true => exact hq rfl _ _ e3
    | false =>
      rw [Bool.false_or] at c
      exact g.h _ _ e3 (n c)
theorem RpX.monoX {st : Bool} {F H F' H' : Hp} {ow ow' : Ow} {v : V} {d : PyData} (h : RpX st F H ow v d) (g : Grow F H ow F' H' ow') (c : st = true) : RpX true F' H' ow' v d := by
  rcases h with h | ⟨p, vs, ds, e1, e2, e3, r, n⟩
  · exact .inl (Rp.mono g.f _ _ h)
  · refine .inr ⟨p, vs, ds, e1, e2, g.h _ _ e3 (n c), RpA.mono g.f _ _ r, fun _ => (g.fz p (ne_of_some e3) (n c)).2⟩

section
variable (E : ExtK) (fr : Fra)
/-- readings by value functions -/
def TQ (q : Bool) (ev : EvE) : TE := fun σ H Q => ∃ F ow env r env', Rel E fr F H ow env σ ∧ ev env = some (r, env') ∧
  ∀ v F' H' ow', Rel E fr F' H' ow' env' σ → Grow F H ow F' H' ow' → (q = true → Ex H H') → Res E fr H ow F' H' ow' v r → Q v H'
def TB (q st : Bool) (ev : EvB) : TE := fun σ H Q => ∃ F ow env d env', Rel E fr F H ow env σ ∧ ev env = some (d, env') ∧
  ∀ v F' H' ow', Rel E fr F' H' ow' env' σ → Grow F H ow F' H' ow' → (q = true → Ex H H') → RpX st F' H' ow' v d → Q v H'
def TP (q : Bool) (ev : EvB) : TE := fun σ H Q => ∃ F ow env d env', Rel E fr F H ow env σ ∧ ev env = some (d, env') ∧
  ∀ v F' H' ow', Rel E fr F' H' ow' env' σ → Grow F H ow F' H' ow' → (q = true → Ex H H') → Rp F' v d → Q v H'
def TTq (q : Bool) (ev : EvT) : TT := fun σ H Q => ∃ F ow env b env', Rel E fr F H ow env σ ∧ ev env = some (b, env') ∧
  ∀ F' H' ow', Rel E fr F' H' ow' env' σ → Grow F H ow F' H' ow' → (q = true → Ex H H') → Q b H'
/-- several, frozen -/
def TAp (q : Bool) (ev : EvA) : TA := fun σ H Q => ∃ F ow env ds env', Rel E fr F H ow env σ ∧ ev env = some (ds, env') ∧
  ∀ vs F' H' ow', Rel E fr F' H' ow' env' σ → Grow F H ow F' H' ow' → (q = true → Ex H H') → RpA F' vs ds → Q vs H'
end
structure SE (E : ExtK) (X : Cx) (e : Expr) (q : Bool) (ev : EvE) : Prop where
  pe : ∀ fr, PE X e (TQ E fr q ev)
structure SB (E : ExtK) (X : Cx) (e : Expr) (q st : Bool) (ev : EvB) : Prop where
  pe : ∀ fr, PE X e (TB E fr q st ev)
structure SP (E : ExtK) (X : Cx) (e : Expr) (q : Bool) (ev : EvB) : Prop where
  pe : ∀ fr, PE X e (TP E fr q ev)
structure ST (E : ExtK) (X : Cx) (e : Expr) (q : Bool) (ev : EvT) : Prop where
  pt : ∀ fr, PT X e (TTq E fr q ev)
structure SA (E : ExtK) (X : Cx) (es : List Expr) (q : Bool) (ev : EvA) : Prop where
  pa : ∀ fr, PA X es (TAp E fr q ev)

/-! ### from one to another -/
def evFz (ev : EvE) : EvB := fun env => match ev env with
  | some (.pur d, env') => some (d, env')
  | some (.own false ds, env') => some (.list ds, env')
  | _ => none
theorem evFz_some {ev : EvE} {env env' : SEnv} {d : PyData} (h : evFz ev env = some (d, env')) : ev env = some (.pur d, env') ∨ ∃ ds, d = .list ds ∧ ev env = some (.own false ds, env') := by
  unfold evFz at h
  split at h
  · cases h; exact .inl (by assumption)
  · cases h; exact .inr ⟨_, rfl, by assumption⟩
  · cases h
def evPu (ev : EvB) : EvE := fun env => match ev env with
  | some (d, env') => some (.pur d, env')
  | none => none
theorem evPu_some {ev : EvB} {env env' : SEnv} {r : Slot} (h : evPu ev env = some (r, env')) : ∃ d, r = .pur d ∧ ev env = some (d, env') := by
  unfold evPu at h
  split at h
  · cases h; exact ⟨_, rfl, by assumption⟩
  · cases h
section
variable {E : ExtK} {fr : Fra} {F H F' H' : Hp} {ow ow' : Ow} {env env' : SEnv} {σ : L2.St}
/-- a list of nobody's is frozen -/
theorem Rel.freeze {p : Addr} {vs : List V} (R : Rel E fr F H ow env σ) (n : ow p = none) (f : F p = none) (b : fr.B p = none) (h : H p = some (.lst vs)) : Rel E fr (upd F p (.lst vs)) H ow env σ where
  fh := fun a o e => by
    by_cases z : a = p
    · subst z; rw [upd_same] at e; rw [h]; exact e
    · rw [upd_ne z] at e; exact R.fh a o e
  f0 := R.f0.tr (Ex.new f)
  bh := R.bh
  fb := fun a o e => by
    have z : a ≠ p := fun z => by subst z; rw [b] at e; cases e
    rw [upd_ne z]
    exact R.fb a o e
  dom := R.dom
  sep := fun a i e => by
    obtain ⟨h1, h2, h3⟩ := R.sep a i e
    have z : a ≠ p := fun z => by subst z; rw [n] at e; cases e
    exact ⟨by rw [upd_ne z]; exact h1, h2, h3⟩
  len := R.len
  sl := fun i s e => by
    rcases R.sl i s e with z | ⟨v, e1, q⟩
    · exact .inl z
    · exact .inr ⟨v, e1, q.mono E (Ex.new f) (fun _ z => z) fun _ _ => rfl⟩
  pr := R.pr
theorem Grow.freeze {F0 H0 : Hp} {ow0 : Ow} {p : Addr} {o : HO} (g : Grow F0 H0 ow0 F H ow) (f : F p = none) (nw : H0 p ≠ none → ow0 p ≠ none) : Grow F0 H0 ow0 (upd F p o) H ow where
  f := g.f.tr (Ex.new f)
  h := g.h
  dom := g.dom
  fz := fun a h n => by
    have z : a ≠ p := fun z => by subst z; exact nw h n
    rw [upd_ne z]
    exact g.fz a h n
variable {X : Cx} [KX X] {e : Expr} {q : Bool} {ev : EvE} {evb : EvB}
theorem SE.sb (h : SE E X e q ev) : SB E X e q true (evFz ev) := ⟨fun fr => (h.pe fr).weak fun σ H Q ⟨F, ow, env, d, env', R, ee, k⟩ => by
  rcases evFz_some ee with e2 | ⟨ds, rfl, e2⟩
  · refine ⟨F, ow, env, _, env', R, e2, fun v F' H' ow' R' g hq rs => k v F' H' ow' R' g hq (.inl ?_)⟩
    obtain ⟨_, _, S, _, hs⟩ := rs
    exact hs
  · refine ⟨F, ow, env, _, env', R, e2, fun v F' H' ow' R' g hq rs => k v F' H' ow' R' g hq (.inr ?_)⟩
    obtain ⟨_, _, S, hS, p, vs, rfl, sp, hp, r⟩ := rs
    exact ⟨p, vs, ds, rfl, rfl, hp, r, fun _ => (hS p sp).1⟩⟩
theorem SE.sp (h : SE E X e q ev) : SP E X e q (evFz ev) := ⟨fun fr => (h.pe fr).weak fun σ H Q ⟨F, ow, env, d, env', R, ee, k⟩ => by
  rcases evFz_some ee with e2 | ⟨ds, rfl, e2⟩
  · refine ⟨F, ow, env, _, env', R, e2, fun v F' H' ow' R' g hq rs => k v F' H' ow' R' g hq ?_⟩
    obtain ⟨_, _, S, _, hs⟩ := rs
    exact hs
  · refine ⟨F, ow, env, _, env', R, e2, fun v F' H' ow' R' g hq rs => ?_⟩
    obtain ⟨_, _, S, hS, p, vs, rfl, sp, hp, r⟩ := rs
    obtain ⟨n, f, b, _, nw⟩ := hS p sp
    exact k _ _ _ _ (R'.freeze n f b hp) (g.freeze f nw) hq (.lst upd_same (RpA.mono (Ex.new f) _ _ r))⟩
theorem SP.sb (h : SP E X e q evb) : SB E X e q true evb := ⟨fun fr => (h.pe fr).weak fun σ H Q ⟨F, ow, env, d, env', R, ee, k⟩ =>
  ⟨F, ow, env, _, env', R, ee, fun v F' H' ow' R' g hq rs => k v F' H' ow' R' g hq (.inl rs)⟩⟩
theorem SP.se (h : SP E X e q evb) : SE E X e q (evPu evb) := ⟨fun fr => (h.pe fr).weak fun σ H Q ⟨F, ow, env, r, env', R, ee, k⟩ => by
  obtain ⟨d, rfl, e2⟩ := evPu_some ee
  exact ⟨F, ow, env, _, env', R, e2, fun v F' H' ow' R' g hq rs => k v F' H' ow' R' g hq (Res.pur rs)⟩⟩

/-! ### constants, names -/
def evC (d : PyData) : EvB := fun env => some (d, env)
theorem sp_const {d : PyData} {v : V} (h : PE X e (tC v)) (r : ∀ F, Rp F v d) : SP E X e true (evC d) := ⟨fun fr => h.weak fun σ H Q ⟨F, ow, env, d', env', R, ee, k⟩ => by
  cases ee
  exact k v F H ow R Grow.refl (fun _ => Ex.refl _) (r F)⟩
theorem sp_int {i : Int} {j : Nat} {pos : Pos} : SP E X (.Constant (.int i) j pos) true (evC (.int i)) := sp_const pe_int fun _ => .int i
theorem sp_str {i : Str} {j : Nat} {pos : Pos} : SP E X (.Constant (.str i) j pos) true (evC (.str i)) := sp_const pe_str fun _ => .str i
theorem sp_bl {i : Bool} {j : Nat} {pos : Pos} : SP E X (.Constant (.bool i) j pos) true (evC (.bool i)) := sp_const pe_bl fun _ => .bl i
theorem sp_non {j : Nat} {pos : Pos} : SP E X (.Constant .none j pos) true (evC .none) := sp_const pe_non fun _ => .non
/-- a module's text constant -/
theorem sp_gstr {x z : Str} {t : Tok} {pos : Pos} (hg : Gl X x) (hm : X.mg x = some (.str z t)) (hd : (x == ("__debug__" : Str)) = false := by decide) : SP E X (.Name x pos) true (evC (.str z)) :=
  sp_const (pe_glob (v := .str z) hg hm ⟨t, rfl⟩ hd) fun _ => .str z
/-- a name, read for good: a list of its own is frozen from here on -/
def evV (i : Nat) : EvB := fun env => match env[i]? with
  | some (.pur d) => some (d, env)
  | some (.own false ds) => some (.list ds, env.set i (.pur (.list ds)))
  | _ => none
/-- a name, looked at -/
def evL (i : Nat) : EvB := fun env => match env[i]? with
  | some (.pur d) => some (d, env)
  | some (.own _ ds) => some (.list ds, env)
  | _ => none
/-- a name, given away -/
def evM (i : Nat) : EvE := fun env => match env[i]? with
  | some (.pur d) => some (.pur d, env)
  | some (.own false ds) => some (.own false ds, env.set i .und)
  | some (.ext false t g) => some (.ext false t g, env.set i .und)
  | _ => none
theorem get_set_of {α : Type} {l : List α} {i j : Nat} {a b : α} (h : (l.set i a)[j]? = some b) : (j = i ∧ b = a) ∨ (j ≠ i ∧ l[j]? = some b) := by
  by_cases z : i = j
  · subst z
    have hl : i < l.length := by
      have := (List.getElem?_eq_some_iff.mp h).1
      rwa [List.length_set] at this
    rw [List.getElem?_set_self hl] at h
    cases h
    exact .inl ⟨rfl, rfl⟩
  · rw [List.getElem?_set_ne z] at h
    exact .inr ⟨Ne.symm z, h⟩
theorem sp_var {i : Nat} {x : Str} {pos : Pos} (h : PE X (.Name x pos) (tVar i)) : SP E X (.Name x pos) true (evV i) := ⟨fun fr => h.weak fun σ H Q ⟨F, ow, env, d, env', R, ee, k⟩ => by
  unfold evV at ee
  split at ee
  · rename_i d' e1
    cases ee
    rcases R.sl _ _ e1 with z | ⟨v, e2, q⟩
    · cases z
    · exact ⟨v, e2, k v F H ow R Grow.refl (fun _ => Ex.refl _) q⟩
  · rename_i ds e1
    cases ee
    rcases R.sl _ _ e1 with z | ⟨v, e2, p, vs, rfl, op, hp, r⟩
    · cases z
    · have op : ow p = some i := op
      obtain ⟨f, b, _⟩ := R.sep p i op
      refine ⟨_, e2, k _ (upd F p (.lst vs)) H (fun a => if a = p then none else ow a) ?_ ?_ (fun _ => Ex.refl _) (.lst upd_same (RpA.mono (Ex.new f) _ _ r))⟩
      · refine ⟨fun a o e => ?_, R.f0.tr (Ex.new f), R.bh, fun a o e => ?_, R.dom, fun a j e => ?_, by rw [List.length_set]; exact R.len, fun j s e => ?_, fun j s e hp' => ?_⟩
        · by_cases z : a = p
          · subst z; rw [upd_same] at e; rw [hp]; exact e
          · rw [upd_ne z] at e; exact R.fh a o e
        · have z : a ≠ p := fun z => by subst z; rw [b] at e; cases e
          rw [upd_ne z]; exact R.fb a o e
        · by_cases z : a = p
          · rw [if_pos z] at e; cases e
          · rw [if_neg z] at e; rw [upd_ne z]; exact R.sep a j e
        · rcases get_set_of e with ⟨rfl, rfl⟩ | ⟨nj, e⟩
          · exact .inr ⟨_, e2, .lst upd_same (RpA.mono (Ex.new f) _ _ r)⟩
          · rcases R.sl j s e with z | ⟨v, e3, q⟩
            · exact .inl z
            · refine .inr ⟨v, e3, q.mono E (Ex.new f) (fun a (ha : ow a = some j) => ?_) fun _ _ => rfl⟩
              have z : a ≠ p := fun z => by subst z; rw [op] at ha; cases ha; exact nj rfl
              show (if a = p then none else ow a) = some j
              rw [if_neg z]; exact ha
        · rcases get_set_of e with ⟨rfl, rfl⟩ | ⟨nj, e⟩
          · cases hp'
          · exact R.pr j s e hp'
      · refine ⟨Ex.new f, fun a o e _ => e, fun a h => h, fun a h n => ?_⟩
        have z : a ≠ p := fun z => by subst z; rw [op] at n; cases n
        exact ⟨upd_ne z, if_neg z ▸ n⟩
  · cases ee⟩
theorem sb_var {i : Nat} {x : Str} {pos : Pos} (h : PE X (.Name x pos) (tVar i)) : SB E X (.Name x pos) true false (evL i) := ⟨fun fr => h.weak fun σ H Q ⟨F, ow, env, d, env', R, ee, k⟩ => by
  unfold evL at ee
  split at ee
  · rename_i d' e1
    cases ee
    rcases R.sl _ _ e1 with z | ⟨v, e2, q⟩
    · cases z
    · exact ⟨v, e2, k v F H ow R Grow.refl (fun _ => Ex.refl _) (.inl q)⟩
  · rename_i ds e1
    cases ee
    rcases R.sl _ _ e1 with z | ⟨v, e2, p, vs, rfl, op, hp, r⟩
    · cases z
    · exact ⟨_, e2, k _ F H ow R Grow.refl (fun _ => Ex.refl _) (.inr ⟨p, vs, _, rfl, rfl, hp, r, fun z => nomatch z⟩)⟩
  · cases ee⟩
/-- slot i gives up what it owns -/
theorem Rel.drop {i : Nat} (R : Rel E fr F H ow env σ) : Rel E fr F H (fun a => if ow a = some i then none else ow a) (env.set i .und) σ where
  fh := R.fh
  f0 := R.f0
  bh := R.bh
  fb := R.fb
  dom := R.dom
  sep := fun a j e => by
    split at e
    · cases e
    · exact R.sep a j e
  len := by rw [List.length_set]; exact R.len
  sl := fun j s e => by
    rcases get_set_of e with ⟨rfl, rfl⟩ | ⟨nj, e⟩
    · exact .inl rfl
    · rcases R.sl j s e with z | ⟨v, e3, q⟩
      · exact .inl z
      · refine .inr ⟨v, e3, q.mono E (Ex.refl _) (fun a (ha : ow a = some j) => ?_) fun _ _ => rfl⟩
        show (if ow a = some i then none else ow a) = some j
        rw [if_neg (fun z => by rw [ha] at z; cases z; exact nj rfl)]
        exact ha
  pr := fun j s e hp' => by
    rcases get_set_of e with ⟨rfl, rfl⟩ | ⟨nj, e⟩
    · cases hp'
    · exact R.pr j s e hp'
theorem Grow.drop {i : Nat} : Grow F H ow F H (fun a => if ow a = some i then none else ow a) := ⟨Ex.refl _, fun _ _ h _ => h, fun _ h => h, fun a _ n => ⟨rfl, by
  show (if ow a = some i then none else ow a) = none
  rw [if_neg (fun z => by rw [n] at z; cases z)]
  exact n⟩⟩
theorem se_mov {i : Nat} {x : Str} {pos : Pos} (h : PE X (.Name x pos) (tVar i)) : SE E X (.Name x pos) true (evM i) := ⟨fun fr => h.weak fun σ H Q ⟨F, ow, env, r, env', R, ee, k⟩ => by
  have mv : ∀ s : Slot, env[i]? = some s → s ≠ .und → s.par = false → (∃ v, σ[i]? = some (some v) ∧ Res E fr H ow F H (fun a => if ow a = some i then none else ow a) v s) := fun s e1 nu np => by
    rcases R.sl _ _ e1 with z | ⟨v, e2, q⟩
    · exact absurd z nu
    · refine ⟨v, e2, np, nu, fun a => ow a = some i, fun a (ha : ow a = some i) => ?_, q⟩
      obtain ⟨f, b, hh⟩ := R.sep a i ha
      exact ⟨by show (if ow a = some i then none else ow a) = none; rw [if_pos ha], f, b, hh, fun _ z => by rw [ha] at z; cases z⟩
  unfold evM at ee
  split at ee
  · rename_i d' e1
    cases ee
    rcases R.sl _ _ e1 with z | ⟨v, e2, q⟩
    · cases z
    · exact ⟨v, e2, k v F H ow R Grow.refl (fun _ => Ex.refl _) (Res.pur q)⟩
  · rename_i ds e1
    cases ee
    obtain ⟨v, e2, rs⟩ := mv _ e1 (fun z => nomatch z) rfl
    exact ⟨v, e2, k v F H _ R.drop Grow.drop (fun _ => Ex.refl _) rs⟩
  · rename_i t g e1
    cases ee
    obtain ⟨v, e2, rs⟩ := mv _ e1 (fun z => nomatch z) rfl
    exact ⟨v, e2, k v F H _ R.drop Grow.drop (fun _ => Ex.refl _) rs⟩
  · cases ee⟩
end
end IX

/-! text IX3 -/
set_option maxHeartbeats 1000000
namespace IX
open PySem PySem.Spec PyProof.Rows L2
variable [KC]

/-! ### operations on values -/
def rBinV (f : PyData → PyData → Option Slot) : R2 := fun x y H Q => ∃ F d e r, Ex F H ∧ RpL F H x d ∧ RpL F H y e ∧ f d e = some r ∧ OutV F H r Q
def rUnV (f : PyData → Option Slot) : V → Hp → VK → Prop := fun x H Q => ∃ F d r, Ex F H ∧ RpL F H x d ∧ f d = some r ∧ OutV F H r Q
def BinV (X : Cx) (g : Value → Value → Sem Value) (f : PyData → PyData → Option Slot) : Prop := OpR X g (rBinV f)
def orF (f g : PyData → PyData → Option Slot) : PyData → PyData → Option Slot := fun d e => match f d e with
  | some r => some r
  | none => g d e
theorem BinV.or {X : Cx} {g : Value → Value → Sem Value} {f f' : PyData → PyData → Option Slot} (h : BinV X g f) (h' : BinV X g f') : BinV X g (orF f f') := by
  intro pins s σ H x y v u Q I rx ry ⟨F, d, e, r, ex, hd, he, hr, k⟩
  unfold orF at hr
  split at hr
  · rename_i r' e1
    cases hr
    exact h pins s σ H x y v u Q I rx ry ⟨F, d, e, r, ex, hd, he, e1, k⟩
  · exact h' pins s σ H x y v u Q I rx ry ⟨F, d, e, r, ex, hd, he, hr, k⟩
/-- from a rule of the layer -/
theorem BinV.of {X : Cx} {g : Value → Value → Sem Value} {f : PyData → PyData → Option Slot} {r0 : R2} (h : OpR X g r0) (w : ∀ x y H Q F d e r, Ex F H → RpL F H x d → RpL F H y e → f d e = some r → OutV F H r Q → r0 x y H Q) : BinV X g f := by
  intro pins s σ H x y v u Q I rx ry ⟨F, d, e, r, ex, hd, he, hr, k⟩
  exact h pins s σ H x y v u Q I rx ry (w x y H Q F d e r ex hd he hr k)
section
variable {X : Cx} [KX X]
def fII (g : Int → Int → Int) : PyData → PyData → Option Slot
  | .int i, .int j => some (.pur (.int (g i j)))
  | _, _ => none
def fIIc (c : Int → Int → Bool) (g : Int → Int → Int) : PyData → PyData → Option Slot
  | .int i, .int j => if c i j = true then some (.pur (.int (g i j))) else none
  | _, _ => none
def fIIb (g : Int → Int → Bool) : PyData → PyData → Option Slot
  | .int i, .int j => some (.pur (.bool (g i j)))
  | _, _ => none
theorem bv_II {g : Value → Value → Sem Value} {h : Int → Int → Int} (ho : OpR X g (rI0 fun i j => .int (h i j))) : BinV X g (fII h) := .of ho fun x y H Q F d e r ex hd he hr k => by
  unfold fII at hr
  split at hr
  · cases hr
    exact ⟨_, _, hd.int, he.int, k.data ex (.int _)⟩
  · cases hr
theorem bv_IIc {g : Value → Value → Sem Value} {C : Int → Int → Prop} {c : Int → Int → Bool} {h : Int → Int → Int} (ho : OpR X g (rI C fun i j => .int (h i j))) (hc : ∀ i j, c i j = true → C i j) : BinV X g (fIIc c h) := .of ho fun x y H Q F d e r ex hd he hr k => by
  unfold fIIc at hr
  split at hr
  · split at hr
    · rename_i z
      cases hr
      exact ⟨_, _, hd.int, he.int, hc _ _ z, k.data ex (.int _)⟩
    · cases hr
  · cases hr
theorem bv_IIb {g : Value → Value → Sem Value} {h : Int → Int → Bool} (ho : OpR X g (rI0 fun i j => .bl (h i j))) : BinV X g (fIIb h) := .of ho fun x y H Q F d e r ex hd he hr k => by
  unfold fIIb at hr
  split at hr
  · cases hr
    exact ⟨_, _, hd.int, he.int, k.data ex (.bl _)⟩
  · cases hr
/-! +, -, *, //, %, ** -/
def fAddS : PyData → PyData → Option Slot
  | .str x, .str y => if x.length + y.length ≤ sizeLine then some (.pur (.str (x ++ y))) else none
  | _, _ => none
theorem bv_addS : BinV X (binaryOp .Add) fAddS := .of op_add_str fun x y H Q F d e r ex hd he hr k => by
  unfold fAddS at hr
  split at hr
  · split at hr
    · rename_i z
      cases hr
      exact ⟨_, _, hd.str, he.str, z, k.data ex (.str _)⟩
    · cases hr
  · cases hr
theorem ibv_addS : BinV X (inplaceOp .Add) fAddS := .of iop_add_str fun x y H Q F d e r ex hd he hr k => by
  unfold fAddS at hr
  split at hr
  · split at hr
    · rename_i z
      cases hr
      exact ⟨_, _, hd.str, he.str, z, k.data ex (.str _)⟩
    · cases hr
  · cases hr
def fCat : PyData → PyData → Option Slot
  | .list x, .list y => if x.length + y.length ≤ sizeLine then some (.own false (x ++ y)) else none
  | _, _ => none
theorem bv_cat : BinV X (binaryOp .Add) fCat := .of op_cat fun x y H Q F d e r ex hd he hr k => by
  unfold fCat at hr
  split at hr
  · split at hr
    · rename_i z
      cases hr
      obtain ⟨p, vs, rfl, hp, rp⟩ := hd.lst ex
      obtain ⟨q, ws, rfl, hq, rq⟩ := he.lst ex
      exact ⟨p, q, vs, ws, rfl, rfl, hp, hq, by rw [rp.length, rq.length]; exact z, fun l hl => k.newL ex (rp.append rq) hl⟩
    · cases hr
  · cases hr
def fCatT : PyData → PyData → Option Slot
  | .tuple x, .tuple y => if x ≠ [] ∧ x.length + y.length ≤ sizeLine then some (.pur (.tuple (x ++ y))) else none
  | _, _ => none
theorem bv_catT : BinV X (binaryOp .Add) fCatT := .of op_catT fun x y H Q F d e r ex hd he hr k => by
  unfold fCatT at hr
  split at hr
  · split at hr
    · rename_i z
      cases hr
      obtain ⟨p, vs, rfl, hp, rp⟩ := hd.tup
      obtain ⟨q, ws, rfl, hq, rq⟩ := he.tup
      refine ⟨p, q, vs, ws, rfl, rfl, hp.sq ex, hq.sq ex, fun e => ?_, by rw [rp.length, rq.length]; exact z.2, fun e => ?_, fun e l hl => k.newT ex (rp.append rq) hl⟩
      · subst e; cases rp; exact z.1 rfl
      · subst e; cases rq
        rw [List.append_nil] at k
        exact k.data ex (.tup hp rp)
    · cases hr
  · cases hr
def fAddIB : PyData → PyData → Option Slot
  | .int i, .bool b => some (.pur (.int (i + b2i b)))
  | _, _ => none
theorem bv_addIB : BinV X (binaryOp .Add) fAddIB := .of op_add_ib fun x y H Q F d e r ex hd he hr k => by
  unfold fAddIB at hr
  split at hr
  · cases hr
    exact ⟨_, _, hd.int, he.bl, k.data ex (.int _)⟩
  · cases hr
def opAdd : PyData → PyData → Option Slot := orF (fII fun i j => i + j) (orF fAddS (orF fCat fCatT))
theorem bv_add : BinV X (binaryOp .Add) opAdd := (bv_II op_add).or (bv_addS.or (bv_cat.or bv_catT))
def opSub : PyData → PyData → Option Slot := fII fun i j => i - j
theorem bv_sub : BinV X (binaryOp .Sub) opSub := bv_II op_sub
def mulOk (i j : Int) : Bool := decide (i.natAbs.log2 + j.natAbs.log2 < 1000000)
/-- text * int -/
def repS (x : Str) (n : Int) : Str := ⟨(List.replicate n.toNat x.cps.toList).flatten.toArray⟩
theorem foldl_app (its : Array Nat) : ∀ (k : Nat) (acc : List Nat), List.foldl (fun x1 x2 => x1 ++ x2) acc.toArray (List.replicate k its) = (acc ++ (List.replicate k its.toList).flatten).toArray
  | 0, acc => by simp
  | k + 1, acc => by
    have e : acc.toArray ++ its = (acc ++ its.toList).toArray := by
      apply Array.ext'
      simp
    rw [List.replicate_succ, List.foldl_cons, e, foldl_app its k, List.replicate_succ, List.flatten_cons, List.append_assoc]
theorem rep_fold (x : Str) (n : Int) : (⟨(List.replicate n.toNat x.cps).foldl (· ++ ·) #[]⟩ : Str) = repS x n := by
  have := foldl_app x.cps n.toNat []
  unfold repS
  congr 1
theorem op_repS : OpR X (binaryOp .Mult) (fun x y H Q => ∃ (z : Str) (n : Int), x = .str z ∧ y = .int n ∧ -(2 ^ 63) ≤ n ∧ n < 2 ^ 62 ∧ z.length * n.toNat ≤ sizeLine ∧ Q (.str (repS z n)) H) := by
  intro pins s σ H x y v u Q I rx ry ⟨z, n, e1, e2, h1, h2, h3, q⟩
  subst e1 e2
  obtain ⟨t, rfl⟩ := rx
  obtain ⟨t', rfl⟩ := ry
  have e63 : (decide (n < -(2 ^ 63 : Int)) || decide (n ≥ 2 ^ 63)) = false := by
    rw [decide_eq_false (by omega), decide_eq_false (by omega)]; rfl
  have hz : (sizeLine : Nat) < 2 ^ 62 := by rw [sizeLine_eq]; decide
  refine PySem.P.mul_str e63 (fun c _ => ?_) (fun c _ => ?_) ?_
  · intro g
    have hn : 0 < n := by omega
    have g1 : (2 ^ 63 - 1) / n < (z.length : Int) := g
    have g2 : (2 ^ 63 - 1 : Int) < (z.length : Int) * n := (Int.ediv_lt_iff_lt_mul hn).mp g1
    have g3 : (z.length : Int) * n = ((z.length * n.toNat : Nat) : Int) := by
      rw [Int.natCast_mul, Int.toNat_of_nonneg (by omega)]
    rw [g3] at g2
    omega
  · show decide (z.length * n.toNat > sizeLine) = false
    exact decide_eq_false (by omega)
  · by_cases c : n < 1
    · rw [if_pos c]
      have e0 : repS z n = Str.empty := by
        have : n.toNat = 0 := by omega
        unfold repS
        rw [this]
        rfl
      rw [e0] at q
      exact ⟨by decide, .str Str.empty, H, I.tok _, ⟨_, rfl⟩, q⟩
    · rw [if_neg c]
      by_cases c2 : (n == 1 || z.length == 0) = true
      · rw [if_pos c2]
        have e0 : repS z n = z := by
          unfold repS
          obtain ⟨a⟩ := z
          rcases Bool.or_eq_true_iff.mp c2 with g | g
          · have : n = 1 := by simpa using g
            subst this
            simp
          · have g' : a.size = 0 := by simpa [Str.length] using g
            have : a = #[] := Array.eq_empty_of_size_eq_zero g'
            subst this
            simp
        rw [e0] at q
        exact ⟨.str z, H, I, ⟨_, rfl⟩, q⟩
      · rw [if_neg c2, rep_fold]
        refine ⟨?_, .str (repS z n), H, I.tok _, ⟨_, rfl⟩, q⟩
        have : (repS z n).length = z.length * n.toNat := by
          unfold repS Str.length
          simp [List.length_flatten, Nat.mul_comm]
        show (repS z n).length ≤ sizeLine
        rw [this]
        exact h3
end
end IX

/-! text IX4 -/
set_option maxHeartbeats 1000000
namespace IX
open PySem PySem.Spec PyProof.Rows L2
variable [KC]

section
variable {X : Cx} [KX X]
def fRepS : PyData → PyData → Option Slot
  | .str x, .int n => if -(2 ^ 62) ≤ n ∧ n < 2 ^ 62 ∧ x.length * n.toNat ≤ sizeLine then some (.pur (.str (repS x n))) else none
  | _, _ => none
theorem bv_repS : BinV X (binaryOp .Mult) fRepS := .of op_repS fun x y H Q F d e r ex hd he hr k => by
  unfold fRepS at hr
  split at hr
  · split at hr
    · rename_i z
      cases hr
      exact ⟨_, _, hd.str, he.int, by omega, z.2.1, z.2.2, k.data ex (.str _)⟩
    · cases hr
  · cases hr
def fRepL : PyData → PyData → Option Slot
  | .list x, .int n => if -(2 ^ 62) ≤ n ∧ n < 2 ^ 62 ∧ x.length * n.toNat ≤ sizeLine then some (.own false (List.replicate n.toNat x).flatten) else none
  | _, _ => none
theorem bv_repL : BinV X (binaryOp .Mult) fRepL := .of op_rep fun x y H Q F d e r ex hd he hr k => by
  unfold fRepL at hr
  split at hr
  · split at hr
    · rename_i z
      cases hr
      obtain ⟨p, vs, rfl, hp, rp⟩ := hd.lst ex
      exact ⟨p, _, vs, rfl, he.int, hp, by omega, by omega, by rw [rp.length]; exact z.2.2, fun l hl => k.newL ex (rp.rep _) hl⟩
    · cases hr
  · cases hr
def opMul : PyData → PyData → Option Slot := orF (fIIc mulOk fun i j => i * j) (orF fRepS fRepL)
theorem mulOk.c {i j : Int} (h : mulOk i j = true) : CMulW i j := by
  unfold mulOk at h
  have z := of_decide_eq_true h
  exact z
theorem bv_mul : BinV X (binaryOp .Mult) opMul := (bv_IIc op_mulW fun i j h => mulOk.c h).or (bv_repS.or bv_repL)
def divOk (_i j : Int) : Bool := decide (0 < j) && decide (j.natAbs.log2 < 9000)
theorem divOk.c {i j : Int} (h : divOk i j = true) : CDivW i j := ⟨of_decide_eq_true (Bool.and_eq_true_iff.mp h).1, of_decide_eq_true (Bool.and_eq_true_iff.mp h).2⟩
def opFdiv : PyData → PyData → Option Slot := fIIc divOk fun i j => i / j
theorem bv_fdiv : BinV X (binaryOp .FloorDiv) opFdiv := bv_IIc op_fdivW fun i j h => divOk.c h
def opMod : PyData → PyData → Option Slot := fIIc (fun _ j => decide (0 < j)) fun i j => i % j
theorem bv_mod : BinV X (binaryOp .Mod) opMod := bv_IIc op_mod fun i j h => of_decide_eq_true h
def powOk (i j : Int) : Bool := decide (0 ≤ j) && decide ((Builtin.Int.intBits i : Int) * j ≤ 2 ^ 27)
theorem op_powW : OpR X (binaryOp .Pow) (rI (fun i j => 0 ≤ j ∧ (Builtin.Int.intBits i : Int) * j ≤ 2 ^ 27) fun i j => .int (i ^ j.toNat)) := opI fun _ _ _ _ _ _ _ hc q => pow_int hc.1 hc.2 q
def opPow : PyData → PyData → Option Slot := fIIc powOk fun i j => i ^ j.toNat
theorem bv_pow : BinV X (binaryOp .Pow) opPow := bv_IIc op_powW fun i j h => ⟨of_decide_eq_true (Bool.and_eq_true_iff.mp h).1, of_decide_eq_true (Bool.and_eq_true_iff.mp h).2⟩
/-! in place -/
theorem ibv_add : BinV X (inplaceOp .Add) (orF (fII fun i j => i + j) fAddS) := (bv_II iop_add).or ibv_addS
theorem ibv_sub : BinV X (inplaceOp .Sub) opSub := bv_II iop_sub
theorem iop_mulW : OpR X (inplaceOp .Mult) (rI CMulW fun i j => .int (i * j)) := opI fun _ _ _ _ _ _ _ hc q => imul_int q hc.ok
theorem ibv_mul : BinV X (inplaceOp .Mult) (fIIc mulOk fun i j => i * j) := bv_IIc iop_mulW fun i j h => mulOk.c h
theorem iop_fdivW : OpR X (inplaceOp .FloorDiv) (rI CDivW fun i j => .int (i / j)) := opI fun i j _ _ _ _ _ hc q => by
  have h1 : (0 : Int) < j := hc.1
  exact ifloordiv_int (by omega) (by rw [Int.fdiv_eq_ediv_of_nonneg i (by omega)]; exact q) (.inl (PyProof.noPylong_of_log2 hc.2))
theorem ibv_fdiv : BinV X (inplaceOp .FloorDiv) opFdiv := bv_IIc iop_fdivW fun i j h => divOk.c h

/-! ### comparisons -/
def scalD : PyData → PyData → Bool
  | .none, .none => true | .none, .int _ => true | .int _, .none => true | .none, .bool _ => true | .bool _, .none => true | .none, .str _ => true | .str _, .none => true
  | .int _, .int _ => true | .bool _, .bool _ => true | .str _, .str _ => true
  | .int _, .str _ => true | .str _, .int _ => true | .bool _, .str _ => true | .str _, .bool _ => true
  | _, _ => false
theorem scalD_V {F H : Hp} {x y : V} {d e : PyData} (hx : RpL F H x d) (hy : RpL F H y e) (h : scalD d e = true) : scal x y = true ∧ decide (x = y) = PyData.eqv d e := by
  cases d <;> cases e <;> first
    | exact absurd h Bool.false_ne_true
    | (first | have e1 := hx.int | have e1 := hx.str | have e1 := hx.bl | have e1 := hx.non
       first | have e2 := hy.int | have e2 := hy.str | have e2 := hy.bl | have e2 := hy.non
       subst e1 e2
       refine ⟨rfl, ?_⟩
       simp only [PyData.eqv]
       first | rfl | (rw [Bool.eq_iff_iff]; simp))
def fEq1 : PyData → PyData → Option Slot := fun d e => if scalD d e = true then some (.pur (.bool (PyData.eqv d e))) else none
def fEq2 : PyData → PyData → Option Slot := fun d e => if (SeqAt.shaped d && SeqAt.shaped e) = true then some (.pur (.bool (PyData.eqv d e))) else none
def fNe1 : PyData → PyData → Option Slot := fun d e => if scalD d e = true then some (.pur (.bool (!PyData.eqv d e))) else none
def fNe2 : PyData → PyData → Option Slot := fun d e => if (SeqAt.shaped d && SeqAt.shaped e) = true then some (.pur (.bool (!PyData.eqv d e))) else none
def opEq : PyData → PyData → Option Slot := orF fEq1 fEq2
def opNe : PyData → PyData → Option Slot := orF fNe1 fNe2
theorem bv_eq (hu : X.A.units + 64 < cLine) : BinV X (compareOp .Eq) opEq := by
  refine BinV.or (.of op_eq fun x y H Q F d e r ex hd he hr k => ?_) (.of (op_eqD hu) fun x y H Q F d e r ex hd he hr k => ?_)
  · unfold fEq1 at hr
    split at hr
    · rename_i z
      cases hr
      obtain ⟨h1, h2⟩ := scalD_V hd he z
      refine ⟨h1, ?_⟩
      rw [h2]
      exact k.data ex (.bl _)
    · cases hr
  · unfold fEq2 at hr
    split at hr
    · rename_i z
      cases hr
      obtain ⟨h1, h2⟩ := Bool.and_eq_true_iff.mp z
      exact ⟨d, e, RpL.dp ex hd, RpL.dp ex he, h1, h2, k.data ex (.bl _)⟩
    · cases hr
theorem bv_ne (hu : X.A.units + 64 < cLine) : BinV X (compareOp .NotEq) opNe := by
  refine BinV.or (.of op_ne fun x y H Q F d e r ex hd he hr k => ?_) (.of (op_neD hu) fun x y H Q F d e r ex hd he hr k => ?_)
  · unfold fNe1 at hr
    split at hr
    · rename_i z
      cases hr
      obtain ⟨h1, h2⟩ := scalD_V hd he z
      refine ⟨h1, ?_⟩
      rw [h2]
      exact k.data ex (.bl _)
    · cases hr
  · unfold fNe2 at hr
    split at hr
    · rename_i z
      cases hr
      obtain ⟨h1, h2⟩ := Bool.and_eq_true_iff.mp z
      exact ⟨d, e, RpL.dp ex hd, RpL.dp ex he, h1, h2, k.data ex (.bl _)⟩
    · cases hr
def fSSb (g : Str → Str → Bool) : PyData → PyData → Option Slot
  | .str i, .str j => some (.pur (.bool (g i j)))
  | _, _ => none
theorem bv_SSb {g : Value → Value → Sem Value} {h : Str → Str → Bool} (ho : OpR X g (fun x y H Q => ∃ i j, x = .str i ∧ y = .str j ∧ Q (.bl (h i j)) H)) : BinV X g (fSSb h) := .of ho fun x y H Q F d e r ex hd he hr k => by
  unfold fSSb at hr
  split at hr
  · cases hr
    exact ⟨_, _, hd.str, he.str, k.data ex (.bl _)⟩
  · cases hr
def sLt (i j : Str) : Bool := decide (i.cps.toList < j.cps.toList)
def opLt : PyData → PyData → Option Slot := orF (fIIb fun i j => decide (i < j)) (fSSb sLt)
def opLe : PyData → PyData → Option Slot := orF (fIIb fun i j => decide (i ≤ j)) (fSSb fun i j => !sLt j i)
def opGt : PyData → PyData → Option Slot := orF (fIIb fun i j => decide (j < i)) (fSSb fun i j => sLt j i)
def opGe : PyData → PyData → Option Slot := orF (fIIb fun i j => decide (j ≤ i)) (fSSb fun i j => !sLt i j)
theorem bv_lt : BinV X (compareOp .Lt) opLt := (bv_IIb op_lt).or (bv_SSb op_lt_str)
theorem bv_le : BinV X (compareOp .LtE) opLe := (bv_IIb op_le).or (bv_SSb op_le_str)
theorem bv_gt : BinV X (compareOp .Gt) opGt := (bv_IIb op_gt).or (bv_SSb op_gt_str)
theorem bv_ge : BinV X (compareOp .GtE) opGe := (bv_IIb op_ge).or (bv_SSb op_ge_str)
/-! is None -/
def isNonD : PyData → Bool
  | .none => true
  | _ => false
def fIsN : PyData → PyData → Option Slot
  | d, .none => some (.pur (.bool (isNonD d)))
  | _, _ => none
def fNotN : PyData → PyData → Option Slot
  | d, .none => some (.pur (.bool (!isNonD d)))
  | _, _ => none
theorem rpl_non {F H : Hp} {x : V} {d : PyData} (h : RpL F H x d) : decide (x = .non) = isNonD d := by
  rcases h with h | ⟨p, vs, ds, rfl, rfl, _, _⟩
  · cases h <;> rfl
  · rfl
theorem bv_isN : BinV X (compareOp .Is) fIsN := .of op_isN fun x y H Q F d e r ex hd he hr k => by
  unfold fIsN at hr
  split at hr
  · cases hr
    refine ⟨he.non, ?_⟩
    rw [rpl_non hd]
    exact k.data ex (.bl _)
  · cases hr
theorem bv_isnN : BinV X (compareOp .IsNot) fNotN := .of op_notN fun x y H Q F d e r ex hd he hr k => by
  unfold fNotN at hr
  split at hr
  · cases hr
    refine ⟨he.non, ?_⟩
    rw [rpl_non hd]
    exact k.data ex (.bl _)
  · cases hr
/-! in -/
def flatD : PyData → Bool
  | .none => true | .bool _ => true | .int _ => true | .str _ => true | _ => false
theorem flat_V {F : Hp} {x : V} {d : PyData} (h : Rp F x d) (f : flatD d = true) : flatV x = true := by
  cases h <;> first | rfl | exact absurd f Bool.false_ne_true
theorem eqV_eqv {F : Hp} {x y : V} {d e : PyData} (h : Rp F x d) (h' : Rp F y e) (f : flatD d = true) (f' : flatD e = true) : eqV x y = PyData.eqv d e := by
  cases h <;> first
    | exact absurd f Bool.false_ne_true
    | (cases h' <;> first | exact absurd f' Bool.false_ne_true | (simp only [PyData.eqv]; rfl))
theorem inV_any {F : Hp} {x : V} {d : PyData} (h : Rp F x d) (f : flatD d = true) : ∀ {vs : List V} {ds : List PyData}, RpA F vs ds → ds.all flatD = true → vs.all flatV = true ∧ inV x vs = ds.any fun e => PyData.eqv e d
  | _, _, .nil, _ => ⟨rfl, rfl⟩
  | v :: vs, e :: ds, .cons r t, g => by
    rw [List.all_cons, Bool.and_eq_true] at g
    obtain ⟨h1, h2⟩ := inV_any h f t g.2
    refine ⟨by rw [List.all_cons, flat_V r g.1, h1]; rfl, ?_⟩
    unfold inV at h2 ⊢
    rw [List.any_cons, List.any_cons, h2, eqV_eqv r h g.1 f]
theorem flat_up {F H : Hp} {x : V} {d : PyData} (h : RpL F H x d) (f : flatD d = true) : Rp F x d := by
  rcases h with h | ⟨_, _, _, _, rfl, _⟩
  · exact h
  · exact absurd f Bool.false_ne_true
def fIn (neg : Bool) : PyData → PyData → Option Slot
  | d, .list es => if (flatD d && es.all flatD) = true then some (.pur (.bool (if neg = true then !(es.any fun e => PyData.eqv e d) else es.any fun e => PyData.eqv e d))) else none
  | d, .tuple es => if (flatD d && es.all flatD) = true then some (.pur (.bool (if neg = true then !(es.any fun e => PyData.eqv e d) else es.any fun e => PyData.eqv e d))) else none
  | _, _ => none
theorem fIn_ok {neg : Bool} {x y : V} {H F : Hp} {Q : VK} {d e : PyData} {r : Slot} (ex : Ex F H) (hd : RpL F H x d) (he : RpL F H y e) (hr : fIn neg d e = some r) (k : OutV F H r Q) : rIn X.K neg x y H Q := by
  unfold fIn at hr
  split at hr
  · split at hr
    · rename_i z
      cases hr
      obtain ⟨p, vs, rfl, hp, rp⟩ := he.lst ex
      obtain ⟨z1, z2⟩ := Bool.and_eq_true_iff.mp z
      obtain ⟨q1, q2⟩ := inV_any (flat_up hd z1) z1 rp z2
      refine ⟨p, vs, rfl, .inl (SqL.of hp), flat_V (flat_up hd z1) z1, q1, ?_⟩
      rw [q2]
      exact k.data ex (.bl _)
    · cases hr
  · split at hr
    · rename_i z
      cases hr
      obtain ⟨p, vs, rfl, hp, rp⟩ := he.tup
      obtain ⟨z1, z2⟩ := Bool.and_eq_true_iff.mp z
      obtain ⟨q1, q2⟩ := inV_any (flat_up hd z1) z1 rp z2
      refine ⟨p, vs, rfl, .inr (hp.sq ex), flat_V (flat_up hd z1) z1, q1, ?_⟩
      rw [q2]
      exact k.data ex (.bl _)
    · cases hr
  · cases hr
/-- a sign in a text -/
def fInC (neg : Bool) : PyData → PyData → Option Slot
  | .str x, .str z => match x.cps.toList with
    | [c] => some (.pur (.bool (if neg = true then !decide (c ∈ z.cps.toList) else decide (c ∈ z.cps.toList))))
    | _ => none
  | _, _ => none
theorem str_one {x : Str} {c : Nat} (h : x.cps.toList = [c]) : x = ⟨#[c]⟩ := by
  obtain ⟨a⟩ := x
  congr 1
  exact Array.toList_inj.mp (by simpa using h)
def fInS (neg : Bool) : PyData → PyData → Option Slot
  | .str i, .str j => some (.pur (.bool (if neg = true then !(!(Builtin.Str.occurrences j i 0 j.length 1).isEmpty) else !(Builtin.Str.occurrences j i 0 j.length 1).isEmpty)))
  | _, _ => none
def opIn : PyData → PyData → Option Slot := orF (fInC false) (orF (fInS false) (fIn false))
def opNotIn : PyData → PyData → Option Slot := orF (fInC true) (orF (fInS true) (fIn true))
theorem bv_in : BinV X (compareOp .In) opIn := by
  refine BinV.or (.of op_in_sign fun x y H Q F d e r ex hd he hr k => ?_) (BinV.or (.of op_in_str fun x y H Q F d e r ex hd he hr k => ?_) (.of op_in_seq fun x y H Q F d e r ex hd he hr k => fIn_ok ex hd he hr k))
  · unfold fInC at hr
    split at hr
    · split at hr
      · rename_i c e1
        cases hr
        refine ⟨c, _, by rw [hd.str, str_one e1], he.str, k.data ex (.bl _)⟩
      · cases hr
    · cases hr
  · unfold fInS at hr
    split at hr
    · cases hr
      exact ⟨_, _, hd.str, he.str, k.data ex (.bl _)⟩
    · cases hr
theorem bv_notIn : BinV X (compareOp .NotIn) opNotIn := by
  refine BinV.or (.of op_notIn_sign fun x y H Q F d e r ex hd he hr k => ?_) (BinV.or (.of op_notin_str fun x y H Q F d e r ex hd he hr k => ?_) (.of op_notIn_seq fun x y H Q F d e r ex hd he hr k => fIn_ok ex hd he hr k))
  · unfold fInC at hr
    split at hr
    · split at hr
      · rename_i c e1
        cases hr
        refine ⟨c, _, by rw [hd.str, str_one e1], he.str, k.data ex (.bl _)⟩
      · cases hr
    · cases hr
  · unfold fInS at hr
    split at hr
    · cases hr
      exact ⟨_, _, hd.str, he.str, k.data ex (.bl _)⟩
    · cases hr

/-! ### subscripts, slices -/
def fIdx : PyData → PyData → Option Slot
  | .list ds, .int i => (atI ds i).map .pur
  | .tuple ds, .int i => (atI ds i).map .pur
  | .str z, .int i => if z.length ≤ sizeLine then (atI z.cps.toList i).map fun c => .pur (.str ⟨#[c]⟩) else none
  | _, _ => none
theorem atI_V {F : Hp} {vs : List V} {ds : List PyData} {i : Int} {d : PyData} (r : RpA F vs ds) (h : atI ds i = some d) : ∃ v, atI vs i = some v ∧ Rp F v d := by
  unfold atI at h ⊢
  rw [r.length]
  obtain ⟨j, hj, hd⟩ := Option.bind_eq_some_iff.mp h
  obtain ⟨v, hv, rv⟩ := r.get hd
  exact ⟨v, by rw [hj]; exact hv, rv⟩
theorem bv_idx : IxR X (rBinV fIdx) := by
  intro value slice pins s σ H x y v u Q I rx ry ⟨F, d, e, r, ex, hd, he, hr, k⟩ hs
  refine ix_seq value slice pins s σ H x y v u Q I rx ry ?_ hs
  unfold fIdx at hr
  split at hr
  · obtain ⟨c, hc, e1⟩ := Option.map_eq_some_iff.mp hr
    subst e1
    obtain ⟨p, vs, rfl, hp, rp⟩ := hd.lst ex
    obtain ⟨w, hw, rw'⟩ := atI_V rp hc
    exact .inl ⟨p, vs, _, w, rfl, he.int, SqL.of hp, hw, k.data ex rw'⟩
  · obtain ⟨c, hc, e1⟩ := Option.map_eq_some_iff.mp hr
    subst e1
    obtain ⟨p, vs, rfl, hp, rp⟩ := hd.tup
    obtain ⟨w, hw, rw'⟩ := atI_V rp hc
    exact .inr (.inl ⟨p, vs, _, w, rfl, he.int, hp.sq ex, hw, k.data ex rw'⟩)
  · split at hr
    · rename_i hz
      obtain ⟨c, hc, e1⟩ := Option.map_eq_some_iff.mp hr
      subst e1
      exact .inr (.inr ⟨_, _, c, hd.str, he.int, hz, hc, k.data ex (.str _)⟩)
    · cases hr
  · cases hr
def cutD {α : Type} (xs : List α) (lo hi : Option Int) : List α := (xs.drop (HT.sIx xs.length 0 lo)).take (HT.sIx xs.length xs.length hi - HT.sIx xs.length 0 lo)
def fSl (d : PyData) (lo hi : Option Int) : Option Slot := match d with
  | .list ds => some (.own false (cutD ds lo hi))
  | .tuple ds => some (.pur (.tuple (cutD ds lo hi)))
  | .str z => if z.length ≤ sizeLine then some (.pur (.str (cutS z lo hi))) else none
  | _ => none
theorem cut_V {F : Hp} {vs : List V} {ds : List PyData} (r : RpA F vs ds) (lo hi : Option Int) : RpA F (cutV vs lo hi) (cutD ds lo hi) := by
  unfold cutV cutD
  rw [r.length]
  exact (r.drop _).take _
end
end IX

/-! text IX5 -/
set_option maxHeartbeats 1000000
namespace IX
open PySem PySem.Spec PyProof.Rows L2
variable [KC]

/-! ### from values to expressions -/
theorem bind2 {α β : Type} {a : Option α} {b : α → Option β} {c : β} (h : a.bind b = some c) : ∃ x, a = some x ∧ b x = some c := Option.bind_eq_some_iff.mp h
section
variable {E : ExtK} {X : Cx} [KX X] {a b c e : Expr} {pos : Pos}
/-- the wish of an operation on values, from the wish of the whole -/
theorem out_of {fr : Fra} {F0 H0 F H : Hp} {ow0 ow : Ow} {env : SEnv} {σ : L2.St} {q : Bool} {r : Slot} {Q : VK} (R : Rel E fr F H ow env σ) (g : Grow F0 H0 ow0 F H ow) (hq : q = true → Ex H0 H)
    (k : ∀ v F' H' ow', Rel E fr F' H' ow' env σ → Grow F0 H0 ow0 F' H' ow' → (q = true → Ex H0 H') → Res E fr H0 ow0 F' H' ow' v r → Q v H') : OutV F H r Q := fun v F' H' al ra =>
  k v F' H' ow (R.alloc al) (g.tr (al.grow R)) (fun z => (hq z).tr al.h) ((ResA.res R al ra).start g)
def evBin (f : PyData → PyData → Option Slot) (a b : EvB) : EvE := fun env => (a env).bind fun p => (b p.2).bind fun q => (f p.1 q.1).map fun r => (r, q.2)
theorem evBin_some {f : PyData → PyData → Option Slot} {a b : EvB} {env env' : SEnv} {r : Slot} (h : evBin f a b env = some (r, env')) : ∃ d env1 e, a env = some (d, env1) ∧ b env1 = some (e, env') ∧ f d e = some r := by
  obtain ⟨⟨d, e1⟩, h1, h⟩ := bind2 h
  obtain ⟨⟨e, e2⟩, h2, h⟩ := bind2 h
  obtain ⟨r', h3, h⟩ := Option.map_eq_some_iff.mp h
  cases h
  exact ⟨d, e1, e, h1, h2, h3⟩
theorem two {qa qb sa sb : Bool} {eva evb : EvB} {ta tb : TE} {fr : Fra} (ha : ∀ σ H Q, TB E fr qa sa eva σ H Q → ta σ H Q) (hb : ∀ σ H Q, TB E fr qb sb evb σ H Q → tb σ H Q) (hc : (qb || sa) = true)
    {σ : L2.St} {H : Hp} {R : V → V → Hp → Prop} {F : Hp} {ow : Ow} {env env1 env2 : SEnv} {d e : PyData} (rel : Rel E fr F H ow env σ) (h1 : eva env = some (d, env1)) (h2 : evb env1 = some (e, env2))
    (k : ∀ x y F' H' ow', Rel E fr F' H' ow' env2 σ → Grow F H ow F' H' ow' → ((qa && qb) = true → Ex H H') → RpL F' H' x d → RpX sb F' H' ow' y e → R x y H') : ta σ H fun x H1 => tb σ H1 fun y H2 => R x y H2 := by
  refine ha σ H _ ⟨F, ow, env, d, env1, rel, h1, fun x F1 H1 ow1 R1 g1 q1 r1 => ?_⟩
  refine hb σ H1 _ ⟨F1, ow1, env1, e, env2, R1, h2, fun y F2 H2 ow2 R2 g2 q2 r2 => ?_⟩
  refine k x y F2 H2 ow2 R2 (g1.tr g2) (fun z => ?_) (r1.mono g2 q2 hc) r2
  obtain ⟨z1, z2⟩ := Bool.and_eq_true_iff.mp z
  exact (q1 z1).tr (q2 z2)
theorem se_bin {op : Operator} {f : PyData → PyData → Option Slot} {qa qb sa sb : Bool} {eva evb : EvB} (ho : BinV X (binaryOp op) f) (ha : SB E X a qa sa eva) (hb : SB E X b qb sb evb) (hc : (qb || sa) = true := by rfl) :
    SE E X (.BinOp a op b pos) (qa && qb) (evBin f eva evb) := ⟨fun fr => (pe_op ho (ha.pe fr) (hb.pe fr)).weak fun σ H Q ⟨F, ow, env, r, env', R, ee, k⟩ => by
  obtain ⟨d, env1, e, h1, h2, h3⟩ := evBin_some ee
  refine two (fun _ _ _ z => z) (fun _ _ _ z => z) hc R h1 h2 fun x y F' H' ow' R' g hq rx ry => ?_
  exact ⟨F', d, e, r, R'.fh, rx, ry.l, h3, out_of R' g hq k⟩⟩
theorem se_cmp {op : CmpOp} {f : PyData → PyData → Option Slot} {qa qb sa sb : Bool} {eva evb : EvB} (ho : BinV X (compareOp op) f) (ha : SB E X a qa sa eva) (hb : SB E X b qb sb evb) (hm : behindInMarks op b = false) (hc : (qb || sa) = true := by rfl) :
    SE E X (.Compare a [op] [b] pos) (qa && qb) (evBin f eva evb) := ⟨fun fr => (pe_cmpR ho (ha.pe fr) (hb.pe fr) hm).weak fun σ H Q ⟨F, ow, env, r, env', R, ee, k⟩ => by
  obtain ⟨d, env1, e, h1, h2, h3⟩ := evBin_some ee
  refine two (fun _ _ _ z => z) (fun _ _ _ z => z) hc R h1 h2 fun x y F' H' ow' R' g hq rx ry => ?_
  exact ⟨F', d, e, r, R'.fh, rx, ry.l, h3, out_of R' g hq k⟩⟩
/-- a result as a truth value -/
def evTr (ev : EvE) : EvT := fun env => match ev env with
  | some (.pur (.bool k), env') => some (k, env')
  | _ => none
theorem evTr_some {ev : EvE} {env env' : SEnv} {k : Bool} (h : evTr ev env = some (k, env')) : ev env = some (.pur (.bool k), env') := by
  unfold evTr at h
  split at h
  · cases h; assumption
  · cases h
theorem st_cmp {op : CmpOp} {f : PyData → PyData → Option Slot} {qa qb sa sb : Bool} {eva evb : EvB} (ho : BinV X (compareOp op) f) (ha : SB E X a qa sa eva) (hb : SB E X b qb sb evb) (hm : behindInMarks op b = false) (hc : (qb || sa) = true := by rfl) :
    ST E X (.Compare a [op] [b] pos) (qa && qb) (evTr (evBin f eva evb)) := ⟨fun fr => (pt_cmpR ho (ha.pe fr) (hb.pe fr) hm).weak fun σ H Q ⟨F, ow, env, r, env', R, ee, k⟩ => by
  obtain ⟨d, env1, e, h1, h2, h3⟩ := evBin_some (evTr_some ee)
  refine two (fun _ _ _ z => z) (fun _ _ _ z => z) hc R h1 h2 fun x y F' H' ow' R' g hq rx ry => ?_
  refine ⟨F', d, e, _, R'.fh, rx, ry.l, h3, out_of (q := qa && qb) R' g hq fun v F2 H2 ow2 R2 g2 q2 r2 => ?_⟩
  obtain ⟨_, _, S, _, hs⟩ := r2
  cases hs
  exact ⟨_, rfl, k F2 H2 ow2 R2 g2 q2⟩⟩
/-- an expression whose value is a bool, as a test -/
theorem st_val {q : Bool} {ev : EvE} (h : SE E X e q ev) (he : ∀ whole, isTrue e X.env whole = (do let v ← whole; standAt e.pos; holding [v] (truthy v)) := by intro _; rfl) : ST E X e q (evTr ev) := ⟨fun fr => (pt_val (h.pe fr) he).weak fun σ H Q ⟨F, ow, env, r, env', R, ee, k⟩ => by
  refine ⟨F, ow, env, _, env', R, evTr_some ee, fun v F' H' ow' R' g hq rs => ?_⟩
  obtain ⟨_, _, S, _, hs⟩ := rs
  cases hs
  exact ⟨_, rfl, k F' H' ow' R' g hq⟩⟩
/-! unary -/
def evUn (f : PyData → Option Slot) (a : EvB) : EvE := fun env => (a env).bind fun p => (f p.1).map fun r => (r, p.2)
theorem evUn_some {f : PyData → Option Slot} {a : EvB} {env env' : SEnv} {r : Slot} (h : evUn f a env = some (r, env')) : ∃ d, a env = some (d, env') ∧ f d = some r := by
  obtain ⟨⟨d, e1⟩, h1, h⟩ := bind2 h
  obtain ⟨r', h3, h⟩ := Option.map_eq_some_iff.mp h
  cases h
  exact ⟨d, h1, h3⟩
def fNeg : PyData → Option Slot
  | .int i => some (.pur (.int (-i)))
  | _ => none
theorem se_neg {qa sa : Bool} {eva : EvB} (ha : SB E X a qa sa eva) : SE E X (.UnaryOp .USub a pos) qa (evUn fNeg eva) := ⟨fun fr => (pe_un un_neg (ha.pe fr)).weak fun σ H Q ⟨F, ow, env, r, env', R, ee, k⟩ => by
  obtain ⟨d, h1, h3⟩ := evUn_some ee
  refine ⟨F, ow, env, d, env', R, h1, fun x F' H' ow' R' g hq rx => ?_⟩
  unfold fNeg at h3
  split at h3
  · cases h3
    exact ⟨_, rx.l.int, (out_of R' g hq k).data R'.fh (.int _)⟩
  · cases h3⟩
/-! and, or, not: tests -/
def evAnd (a b : EvT) : EvT := fun env => (a env).bind fun p => if p.1 = true then b p.2 else some (false, p.2)
def evOr (a b : EvT) : EvT := fun env => (a env).bind fun p => if p.1 = true then some (true, p.2) else b p.2
def evNot (a : EvT) : EvT := fun env => (a env).map fun p => (!p.1, p.2)
structure SW (E : ExtK) (X : Cx) (e : Expr) (q : Bool) (ev : EvT) : Prop where
  pw : ∀ fr, PW X e (TTq E fr q ev)
theorem SW.st {q : Bool} {ev : EvT} (h : SW E X e q ev) : ST E X e q ev := ⟨fun fr => (h.pw fr).pt⟩
theorem sw_and1 {q : Bool} {ev : EvT} (h : ST E X a q ev) : SW E X (.BoolOp .And [a] pos) q ev := ⟨fun fr => pw_and1 (h.pt fr)⟩
theorem sw_or1 {q : Bool} {ev : EvT} (h : ST E X a q ev) : SW E X (.BoolOp .Or [a] pos) q ev := ⟨fun fr => pw_or1 (h.pt fr)⟩
theorem sw_and {rest : List Expr} {qa qb : Bool} {eva evb : EvT} (ha : ST E X a qa eva) (hb : SW E X (.BoolOp .And (b :: rest) pos) qb evb) : SW E X (.BoolOp .And (a :: b :: rest) pos) (qa && qb) (evAnd eva evb) := ⟨fun fr => (pw_and (ha.pt fr) (hb.pw fr)).weak fun σ H Q ⟨F, ow, env, r, env', R, ee, k⟩ => by
  obtain ⟨⟨c, e1⟩, h1, h⟩ := bind2 ee
  refine ⟨F, ow, env, c, e1, R, h1, fun F' H' ow' R' g hq => ?_⟩
  cases c with
  | true =>
    refine iteT ⟨F', ow', e1, r, env', R', h, fun F2 H2 ow2 R2 g2 q2 => k F2 H2 ow2 R2 (g.tr g2) fun z => ?_⟩
    obtain ⟨z1, z2⟩ := Bool.and_eq_true_iff.mp z
    exact (hq z1).tr (q2 z2)
  | false =>
    cases h
    exact iteF (k F' H' ow' R' g fun z => hq (Bool.and_eq_true_iff.mp z).1)⟩
theorem sw_or {rest : List Expr} {qa qb : Bool} {eva evb : EvT} (ha : ST E X a qa eva) (hb : SW E X (.BoolOp .Or (b :: rest) pos) qb evb) : SW E X (.BoolOp .Or (a :: b :: rest) pos) (qa && qb) (evOr eva evb) := ⟨fun fr => (pw_or (ha.pt fr) (hb.pw fr)).weak fun σ H Q ⟨F, ow, env, r, env', R, ee, k⟩ => by
  obtain ⟨⟨c, e1⟩, h1, h⟩ := bind2 ee
  refine ⟨F, ow, env, c, e1, R, h1, fun F' H' ow' R' g hq => ?_⟩
  cases c with
  | false =>
    refine iteF ⟨F', ow', e1, r, env', R', h, fun F2 H2 ow2 R2 g2 q2 => k F2 H2 ow2 R2 (g.tr g2) fun z => ?_⟩
    obtain ⟨z1, z2⟩ := Bool.and_eq_true_iff.mp z
    exact (hq z1).tr (q2 z2)
  | true =>
    cases h
    exact iteT (k F' H' ow' R' g fun z => hq (Bool.and_eq_true_iff.mp z).1)⟩
theorem st_not {q : Bool} {ev : EvT} (h : ST E X a q ev) : ST E X (.UnaryOp .Not a pos) q (evNot ev) := ⟨fun fr => (pt_not (h.pt fr)).weak fun σ H Q ⟨F, ow, env, r, env', R, ee, k⟩ => by
  obtain ⟨⟨c, e1⟩, h1, h⟩ := Option.map_eq_some_iff.mp ee
  cases h
  exact ⟨F, ow, env, c, e1, R, h1, fun F' H' ow' R' g hq => k F' H' ow' R' g hq⟩⟩
/-- truth values -/
def evBo (ev : EvT) : EvB := fun env => (ev env).map fun p => (.bool p.1, p.2)
/-! as values: the parts are values that are bools -/
theorem bo_se {q : Bool} {ev : EvE} (h : SE E X e q ev) : ∀ fr, PE X e (fun σ H Q => ∃ F ow env b env', Rel E fr F H ow env σ ∧ evTr ev env = some (b, env') ∧ ∀ F' H' ow', Rel E fr F' H' ow' env' σ → Grow F H ow F' H' ow' → (q = true → Ex H H') → Q (.bl b) H') := fun fr => (h.pe fr).weak fun σ H Q ⟨F, ow, env, b, env', R, ee, k⟩ => by
  refine ⟨F, ow, env, _, env', R, evTr_some ee, fun v F' H' ow' R' g hq rs => ?_⟩
  obtain ⟨_, _, S, _, hs⟩ := rs
  cases hs
  exact k F' H' ow' R' g hq
structure SV (E : ExtK) (X : Cx) (e : Expr) (q : Bool) (ev : EvT) : Prop where
  pe : ∀ fr, PE X e (fun σ H Q => ∃ F ow env b env', Rel E fr F H ow env σ ∧ ev env = some (b, env') ∧ ∀ F' H' ow', Rel E fr F' H' ow' env' σ → Grow F H ow F' H' ow' → (q = true → Ex H H') → Q (.bl b) H')
theorem SE.sv {q : Bool} {ev : EvE} (h : SE E X e q ev) : SV E X e q (evTr ev) := ⟨bo_se h⟩
theorem SV.sp {q : Bool} {ev : EvT} (h : SV E X e q ev) : SP E X e q (evBo ev) := ⟨fun fr => (h.pe fr).weak fun σ H Q ⟨F, ow, env, d, env', R, ee, k⟩ => by
  obtain ⟨⟨c, e1⟩, h1, h⟩ := Option.map_eq_some_iff.mp ee
  cases h
  exact ⟨F, ow, env, c, e1, R, h1, fun F' H' ow' R' g hq => k _ F' H' ow' R' g hq (.bl _)⟩⟩
theorem sv_one {op : BoolOp} {q : Bool} {ev : EvT} (h : SV E X a q ev) : SV E X (.BoolOp op [a] pos) q ev := ⟨fun fr => pe_one (h.pe fr)⟩
theorem sv_and {rest : List Expr} {qa qb : Bool} {eva evb : EvT} (ha : SV E X a qa eva) (hb : SV E X (.BoolOp .And (b :: rest) pos) qb evb) : SV E X (.BoolOp .And (a :: b :: rest) pos) (qa && qb) (evAnd eva evb) := ⟨fun fr => (pe_and (ha.pe fr) (hb.pe fr)).weak fun σ H Q ⟨F, ow, env, r, env', R, ee, k⟩ => by
  obtain ⟨⟨c, e1⟩, h1, h⟩ := bind2 ee
  refine ⟨F, ow, env, c, e1, R, h1, fun F' H' ow' R' g hq => ⟨c, rfl, ?_⟩⟩
  cases c with
  | true =>
    refine iteT ⟨F', ow', e1, r, env', R', h, fun F2 H2 ow2 R2 g2 q2 => k F2 H2 ow2 R2 (g.tr g2) fun z => ?_⟩
    obtain ⟨z1, z2⟩ := Bool.and_eq_true_iff.mp z
    exact (hq z1).tr (q2 z2)
  | false =>
    cases h
    exact iteF (k F' H' ow' R' g fun z => hq (Bool.and_eq_true_iff.mp z).1)⟩
theorem sv_or {rest : List Expr} {qa qb : Bool} {eva evb : EvT} (ha : SV E X a qa eva) (hb : SV E X (.BoolOp .Or (b :: rest) pos) qb evb) : SV E X (.BoolOp .Or (a :: b :: rest) pos) (qa && qb) (evOr eva evb) := ⟨fun fr => (pe_or (ha.pe fr) (hb.pe fr)).weak fun σ H Q ⟨F, ow, env, r, env', R, ee, k⟩ => by
  obtain ⟨⟨c, e1⟩, h1, h⟩ := bind2 ee
  refine ⟨F, ow, env, c, e1, R, h1, fun F' H' ow' R' g hq => ⟨c, rfl, ?_⟩⟩
  cases c with
  | false =>
    refine iteF ⟨F', ow', e1, r, env', R', h, fun F2 H2 ow2 R2 g2 q2 => k F2 H2 ow2 R2 (g.tr g2) fun z => ?_⟩
    obtain ⟨z1, z2⟩ := Bool.and_eq_true_iff.mp z
    exact (hq z1).tr (q2 z2)
  | true =>
    cases h
    exact iteT (k F' H' ow' R' g fun z => hq (Bool.and_eq_true_iff.mp z).1)⟩
theorem sv_not {q : Bool} {ev : EvT} (h : SV E X a q ev) : SV E X (.UnaryOp .Not a pos) q (evNot ev) := ⟨fun fr => (pe_not (h.pe fr)).weak fun σ H Q ⟨F, ow, env, r, env', R, ee, k⟩ => by
  obtain ⟨⟨c, e1⟩, h1, h⟩ := Option.map_eq_some_iff.mp ee
  cases h
  exact ⟨F, ow, env, c, e1, R, h1, fun F' H' ow' R' g hq => ⟨c, rfl, k F' H' ow' R' g hq⟩⟩⟩
/-! a if t else b -/
def evIf (t : EvT) (a b : EvE) : EvE := fun env => (t env).bind fun p => if p.1 = true then a p.2 else b p.2
theorem se_if {qt qa qb : Bool} {evt : EvT} {eva evb : EvE} (ht : ST E X c qt evt) (ha : SE E X a qa eva) (hb : SE E X b qb evb) : SE E X (.IfExp c a b pos) (qt && (qa && qb)) (evIf evt eva evb) := ⟨fun fr => (pe_ifExp (ht.pt fr) (ha.pe fr) (hb.pe fr)).weak fun σ H Q ⟨F, ow, env, r, env', R, ee, k⟩ => by
  obtain ⟨⟨c, e1⟩, h1, h⟩ := bind2 ee
  refine ⟨F, ow, env, c, e1, R, h1, fun F' H' ow' R' g hq => ?_⟩
  cases c with
  | true =>
    refine iteT ⟨F', ow', e1, r, env', R', h, fun v F2 H2 ow2 R2 g2 q2 rs => k v F2 H2 ow2 R2 (g.tr g2) (fun z => ?_) (rs.start g)⟩
    obtain ⟨z1, z2⟩ := Bool.and_eq_true_iff.mp z
    exact (hq z1).tr (q2 (Bool.and_eq_true_iff.mp z2).1)
  | false =>
    refine iteF ⟨F', ow', e1, r, env', R', h, fun v F2 H2 ow2 R2 g2 q2 rs => k v F2 H2 ow2 R2 (g.tr g2) (fun z => ?_) (rs.start g)⟩
    obtain ⟨z1, z2⟩ := Bool.and_eq_true_iff.mp z
    exact (hq z1).tr (q2 (Bool.and_eq_true_iff.mp z2).2)⟩
end
end IX

/-! text IX6 -/
set_option maxHeartbeats 1000000
namespace IX
open PySem PySem.Spec PyProof.Rows L2
variable [KC]

section
variable {E : ExtK} {X : Cx} [KX X] {a b c e o : Expr} {es : List Expr} {pos p2 : Pos}
theorem and1 {x y : Bool} (h : (x && y) = true) : x = true := (Bool.and_eq_true_iff.mp h).1
theorem and2 {x y : Bool} (h : (x && y) = true) : y = true := (Bool.and_eq_true_iff.mp h).2
/-! ### lists of expressions -/
def evNil : EvA := fun env => some ([], env)
def evCons (a : EvB) (b : EvA) : EvA := fun env => (a env).bind fun p => (b p.2).map fun q => (p.1 :: q.1, q.2)
/-- *e: a tuple's, a list's items -/
def itemsD : PyData → Option (List PyData)
  | .list ds => some ds
  | .tuple ds => some ds
  | _ => none
def evStar (a : EvB) (b : EvA) : EvA := fun env => (a env).bind fun p => (itemsD p.1).bind fun ds => (b p.2).map fun q => (ds ++ q.1, q.2)
theorem sa_nil : SA E X [] true evNil := ⟨fun fr => pa_nil.weak fun σ H Q ⟨F, ow, env, ds, env', R, ee, k⟩ => by
  cases ee
  exact k [] F H ow R Grow.refl (fun _ => Ex.refl _) .nil⟩
theorem sa_cons {qa qb : Bool} {eva : EvB} {evb : EvA} (ha : SP E X e qa eva) (hb : SA E X es qb evb) (hs : starEach (e :: es) X.env = (false, eval e X.env) :: starEach es X.env := by rfl) : SA E X (e :: es) (qa && qb) (evCons eva evb) := ⟨fun fr => (pa_cons (ha.pe fr) (hb.pa fr) hs).weak fun σ H Q ⟨F, ow, env, ds, env', R, ee, k⟩ => by
  obtain ⟨⟨d, e1⟩, h1, h⟩ := bind2 ee
  obtain ⟨⟨ds', e2⟩, h2, h⟩ := Option.map_eq_some_iff.mp h
  cases h
  refine ⟨F, ow, env, d, e1, R, h1, fun v F1 H1 ow1 R1 g1 q1 r1 => ⟨F1, ow1, e1, ds', e2, R1, h2, fun vs F2 H2 ow2 R2 g2 q2 r2 => ?_⟩⟩
  exact k (v :: vs) F2 H2 ow2 R2 (g1.tr g2) (fun z => (q1 (and1 z)).tr (q2 (and2 z))) (.cons (Rp.mono g2.f _ _ r1) r2)⟩
theorem sa_star {qa qb : Bool} {eva : EvB} {evb : EvA} (ha : SP E X e qa eva) (hb : SA E X es qb evb) (hs : starEach (.Starred e pos :: es) X.env = (true, eval e X.env) :: starEach es X.env := by rfl) : SA E X (.Starred e pos :: es) (qa && qb) (evStar eva evb) := ⟨fun fr => (StX.pa_star (ha.pe fr) (hb.pa fr) hs).weak fun σ H Q ⟨F, ow, env, ds, env', R, ee, k⟩ => by
  obtain ⟨⟨d, e1⟩, h1, h⟩ := bind2 ee
  obtain ⟨is, h3, h⟩ := bind2 h
  obtain ⟨⟨ds', e2⟩, h2, h⟩ := Option.map_eq_some_iff.mp h
  cases h
  refine ⟨F, ow, env, d, e1, R, h1, fun v F1 H1 ow1 R1 g1 q1 r1 => ?_⟩
  have go : ∀ xs : List V, RpA F1 xs is → TAp E fr qb evb σ H1 fun ys H2 => Q (xs ++ ys) H2 := fun xs rx => ⟨F1, ow1, e1, ds', e2, R1, h2, fun vs F2 H2 ow2 R2 g2 q2 r2 =>
    k (xs ++ vs) F2 H2 ow2 R2 (g1.tr g2) (fun z => (q1 (and1 z)).tr (q2 (and2 z))) ((RpA.mono g2.f _ _ rx).append r2)⟩
  cases d with
  | list ds0 =>
    cases h3
    cases r1 with
    | lst hp r => exact ⟨_, _, rfl, .inr (SqL.of (R1.fh _ _ hp)), go _ r⟩
  | tuple ds0 =>
    cases h3
    cases r1 with
    | tup hp r => exact ⟨_, _, rfl, .inl (hp.sq R1.fh), go _ r⟩
  | _ => cases h3⟩
/-! ### displays -/
def evTup (a : EvA) : EvB := fun env => (a env).bind fun p => if p.1.length ≤ sizeLine then some (.tuple p.1, p.2) else none
def evLst (a : EvA) : EvE := fun env => (a env).bind fun p => if p.1.length ≤ sizeLine then some (.own false p.1, p.2) else none
theorem sp_tup {k : Nat} {q : Bool} {ev : EvA} (h : SA E X es q ev) : SP E X (.Tuple es k pos) q (evTup ev) := ⟨fun fr => (pe_tup (h.pa fr)).weak fun σ H Q ⟨F, ow, env, d, env', R, ee, k⟩ => by
  obtain ⟨⟨ds, e1⟩, h1, h⟩ := bind2 ee
  by_cases z : ds.length ≤ sizeLine
  · have h' : (if ds.length ≤ sizeLine then some (PyData.tuple ds, e1) else none) = some (d, env') := h
    rw [if_pos z] at h'
    cases h'
    refine ⟨F, ow, env, ds, _, R, h1, fun vs F' H' ow' R' g hq r => ⟨by rw [r.length]; exact z, fun p hp => ?_⟩⟩
    have al := Alloc.new (o := .tup vs) R'.fh hp
    exact k _ _ _ _ (R'.alloc al) (g.tr (al.grow R')) (fun z => (hq z).tr al.h) (.tup (.inl upd_same) (RpA.mono al.f _ _ r))
  · have h' : (if ds.length ≤ sizeLine then some (PyData.tuple ds, e1) else none) = some (d, env') := h
    rw [if_neg z] at h'
    cases h'⟩
theorem se_lst {q : Bool} {ev : EvA} (h : SA E X es q ev) : SE E X (.List es pos) q (evLst ev) := ⟨fun fr => (pe_lst (h.pa fr)).weak fun σ H Q ⟨F, ow, env, d, env', R, ee, k⟩ => by
  obtain ⟨⟨ds, e1⟩, h1, h⟩ := bind2 ee
  by_cases z : ds.length ≤ sizeLine
  · have h' : (if ds.length ≤ sizeLine then some (Slot.own false ds, e1) else none) = some (d, env') := h
    rw [if_pos z] at h'
    cases h'
    refine ⟨F, ow, env, ds, _, R, h1, fun vs F' H' ow' R' g hq r => ⟨by rw [r.length]; exact z, fun p hp => ?_⟩⟩
    exact (out_of R' g hq k).newL R'.fh r hp
  · have h' : (if ds.length ≤ sizeLine then some (Slot.own false ds, e1) else none) = some (d, env') := h
    rw [if_neg z] at h'
    cases h'⟩
/-! ### subscripts -/
theorem se_idx {qa qb sa sb : Bool} {eva evb : EvB} (ha : SB E X a qa sa eva) (hb : SB E X b qb sb evb) (hs : PlainIx b := by exact fun _ _ => rfl) (hc : (qb || sa) = true := by rfl) : SE E X (.Subscript a b pos) (qa && qb) (evBin fIdx eva evb) := ⟨fun fr => (pe_ix bv_idx (ha.pe fr) (hb.pe fr) hs).weak fun σ H Q ⟨F, ow, env, r, env', R, ee, k⟩ => by
  obtain ⟨d, env1, e, h1, h2, h3⟩ := evBin_some ee
  refine two (fun _ _ _ z => z) (fun _ _ _ z => z) hc R h1 h2 fun x y F' H' ow' R' g hq rx ry => ?_
  exact ⟨F', d, e, r, R'.fh, rx, ry.l, h3, out_of R' g hq k⟩⟩
/-! slices -/
abbrev EvO := SEnv → Option (Option Int × SEnv)
def TOq (E : ExtK) (fr : Fra) (q : Bool) (ev : EvO) : TO := fun σ H Q => ∃ F ow env i env', Rel E fr F H ow env σ ∧ ev env = some (i, env') ∧
  ∀ F' H' ow', Rel E fr F' H' ow' env' σ → Grow F H ow F' H' ow' → (q = true → Ex H H') → Q i H'
structure SO (E : ExtK) (X : Cx) (e : Option Expr) (q : Bool) (ev : EvO) : Prop where
  po : ∀ fr, PO X e (TOq E fr q ev)
def evNo : EvO := fun env => some (none, env)
def evPart (a : EvB) : EvO := fun env => match a env with
  | some (.int i, env') => some (some i, env')
  | _ => none
theorem so_none : SO E X none true evNo := ⟨fun fr => po_none.weak fun σ H Q ⟨F, ow, env, i, env', R, ee, k⟩ => by
  cases ee
  exact k F H ow R Grow.refl fun _ => Ex.refl _⟩
theorem so_some {q st : Bool} {ev : EvB} (h : SB E X e q st ev) : SO E X (some e) q (evPart ev) := ⟨fun fr => (po_some (h.pe fr)).weak fun σ H Q ⟨F, ow, env, i, env', R, ee, k⟩ => by
  unfold evPart at ee
  split at ee
  · rename_i j e1 h1
    cases ee
    exact ⟨F, ow, env, _, _, R, h1, fun v F' H' ow' R' g hq r => ⟨_, r.l.int, k F' H' ow' R' g hq⟩⟩
  · cases ee⟩
def rSlV (f : PyData → Option Int → Option Int → Option Slot) : V → Option Int → Option Int → Hp → VK → Prop := fun x lo hi H Q => ∃ F d r, Ex F H ∧ RpL F H x d ∧ f d lo hi = some r ∧ OutV F H r Q
theorem sl_v : SlR X (rSlV fSl) := by
  intro pins s σ H x v vl vu lo hi sl Q I rx hs pl pu ⟨F, d, r, ex, hd, hr, k⟩
  refine ((sl_list (X := X)).or (sl_tupA.or sl_str)) pins s σ H x v vl vu lo hi sl Q I rx hs pl pu ?_
  unfold fSl at hr
  split at hr
  · cases hr
    obtain ⟨p, vs, rfl, hp, rp⟩ := hd.lst ex
    exact .inl ⟨p, vs, rfl, SqL.of hp, fun l hl => k.newL ex (cut_V rp lo hi) hl⟩
  · cases hr
    obtain ⟨p, vs, rfl, hp, rp⟩ := hd.tup
    refine .inr (.inl ⟨p, vs, rfl, hp.sq ex, fun z => ?_, fun _ l hl => k.newT ex (cut_V rp lo hi) hl⟩)
    rw [rp.length] at z
    have e : ∀ ds : List PyData, (HT.sIx ds.length 0 lo = 0 ∧ HT.sIx ds.length ds.length hi = ds.length) → cutD ds lo hi = ds := fun ds z => by unfold cutD; rw [z.1, z.2]; simp
    rw [e _ z] at k
    exact k.data ex (.tup hp rp)
  · split at hr
    · rename_i z
      cases hr
      exact .inr (.inr ⟨_, hd.str, z, k.data ex (.str _)⟩)
    · cases hr
  · cases hr
def evSl (a : EvB) (l h : EvO) : EvE := fun env => (a env).bind fun p => (l p.2).bind fun q => (h q.2).bind fun r => (fSl p.1 q.1 r.1).map fun s => (s, r.2)
theorem se_slice {qa ql qh sa : Bool} {eva : EvB} {evl evh : EvO} {lo hi : Option Expr} (ha : SB E X a qa sa eva) (hl : SO E X lo ql evl) (hh : SO E X hi qh evh) (hc : ((ql && qh) || sa) = true := by rfl) : SE E X (.Subscript a (.Slice lo hi none p2) pos) (qa && (ql && qh)) (evSl eva evl evh) := ⟨fun fr => (pe_slice sl_v (ha.pe fr) (hl.po fr) (hh.po fr)).weak fun σ H Q ⟨F, ow, env, r, env', R, ee, k⟩ => by
  obtain ⟨⟨d, e1⟩, h1, h⟩ := bind2 ee
  obtain ⟨⟨i, e2⟩, h2, h⟩ := bind2 h
  obtain ⟨⟨j, e3⟩, h3, h⟩ := bind2 h
  obtain ⟨s, h4, h⟩ := Option.map_eq_some_iff.mp h
  cases h
  refine ⟨F, ow, env, d, e1, R, h1, fun x F1 H1 ow1 R1 g1 q1 r1 => ⟨F1, ow1, e1, i, e2, R1, h2, fun F2 H2 ow2 R2 g2 q2 => ⟨F2, ow2, e2, j, e3, R2, h3, fun F3 H3 ow3 R3 g3 q3 => ?_⟩⟩⟩
  refine ⟨F3, d, _, R3.fh, r1.mono (g2.tr g3) (q := ql && qh) (fun z => (q2 (and1 z)).tr (q3 (and2 z))) hc, h4, out_of R3 (g1.tr (g2.tr g3)) (fun z => (q1 (and1 z)).tr ((q2 (and1 (and2 z))).tr (q3 (and2 (and2 z))))) k⟩⟩
/-! ### built-ins by name -/
def TAb (E : ExtK) (fr : Fra) (q : Bool) (ev : EvA) : TA := fun σ H Q => ∃ F ow env ds env', Rel E fr F H ow env σ ∧ ev env = some (ds, env') ∧
  ∀ vs F' H' ow', Rel E fr F' H' ow' env' σ → Grow F H ow F' H' ow' → (q = true → Ex H H') → RpLA F' H' vs ds → Q vs H'
structure SAB (E : ExtK) (X : Cx) (es : List Expr) (q : Bool) (ev : EvA) : Prop where
  pa : ∀ fr, PA X es (TAb E fr q ev)
theorem sab_nil : SAB E X [] true evNil := ⟨fun fr => pa_nil.weak fun σ H Q ⟨F, ow, env, ds, env', R, ee, k⟩ => by
  cases ee
  exact k [] F H ow R Grow.refl (fun _ => Ex.refl _) .nil⟩
theorem sab_cons {qa qb sa : Bool} {eva : EvB} {evb : EvA} (ha : SB E X e qa sa eva) (hb : SAB E X es qb evb) (hc : (qb || sa) = true := by rfl) (hs : starEach (e :: es) X.env = (false, eval e X.env) :: starEach es X.env := by rfl) : SAB E X (e :: es) (qa && qb) (evCons eva evb) := ⟨fun fr => (pa_cons (ha.pe fr) (hb.pa fr) hs).weak fun σ H Q ⟨F, ow, env, ds, env', R, ee, k⟩ => by
  obtain ⟨⟨d, e1⟩, h1, h⟩ := bind2 ee
  obtain ⟨⟨ds', e2⟩, h2, h⟩ := Option.map_eq_some_iff.mp h
  cases h
  refine ⟨F, ow, env, d, e1, R, h1, fun v F1 H1 ow1 R1 g1 q1 r1 => ⟨F1, ow1, e1, ds', e2, R1, h2, fun vs F2 H2 ow2 R2 g2 q2 r2 => ?_⟩⟩
  exact k (v :: vs) F2 H2 ow2 R2 (g1.tr g2) (fun z => (q1 (and1 z)).tr (q2 (and2 z))) (.cons (r1.mono g2 q2 hc) r2)⟩
def rCallV (f : List PyData → Option Slot) : List V → Hp → VK → Prop := fun xs H Q => ∃ F ds r, Ex F H ∧ RpLA F H xs ds ∧ f ds = some r ∧ OutV F H r Q
def CallV (X : Cx) (g : Value) (f : List PyData → Option Slot) : Prop := CallR X g (rCallV f)
theorem CallV.of {g : Value} {f : List PyData → Option Slot} {r0 : List V → Hp → VK → Prop} (h : CallR X g r0) (w : ∀ xs H Q F ds r, Ex F H → RpLA F H xs ds → f ds = some r → OutV F H r Q → r0 xs H Q) : CallV X g f := by
  intro pins s σ H xs us Q I rx ⟨F, ds, r, ex, hd, hr, k⟩
  exact h pins s σ H xs us Q I rx (w xs H Q F ds r ex hd hr k)
def orC (f g : List PyData → Option Slot) : List PyData → Option Slot := fun d => match f d with
  | some r => some r
  | none => g d
theorem CallV.or {g : Value} {f f' : List PyData → Option Slot} (h : CallV X g f) (h' : CallV X g f') : CallV X g (orC f f') := by
  intro pins s σ H xs us Q I rx ⟨F, ds, r, ex, hd, hr, k⟩
  unfold orC at hr
  split at hr
  · rename_i r' e1
    cases hr
    exact h pins s σ H xs us Q I rx ⟨F, ds, r, ex, hd, e1, k⟩
  · exact h' pins s σ H xs us Q I rx ⟨F, ds, r, ex, hd, hr, k⟩
def evBlt (f : List PyData → Option Slot) (a : EvA) : EvE := fun env => (a env).bind fun p => (f p.1).map fun r => (r, p.2)
theorem evBlt_some {f : List PyData → Option Slot} {a : EvA} {env env' : SEnv} {r : Slot} (h : evBlt f a env = some (r, env')) : ∃ d, a env = some (d, env') ∧ f d = some r := by
  obtain ⟨⟨d, e1⟩, h1, h⟩ := bind2 h
  obtain ⟨r', h3, h⟩ := Option.map_eq_some_iff.mp h
  cases h
  exact ⟨d, h1, h3⟩
theorem se_callB {x : Str} {p : Pos} {id : String} {q : Bool} {ev : EvA} {f : List PyData → Option Slot} (hc : CallV X (.builtin id) f) (hg : Gl X x) (hm : X.mg x = none) (hv : bootBuiltins x = some (.builtin id)) (ha : SAB E X (e :: es) q ev)
    (hn : x ≠ "__name__" := by decide) (hdb : (x == ("__debug__" : Str)) = false := by decide) (he : starEach (e :: es) X.env = (false, eval e X.env) :: starEach es X.env := by rfl) (hpl : (backTo pos (starEach es X.env)).any (·.1) = false := by rfl) :
    SE E X (.Call (.Name x p) (e :: es) [] pos) q (evBlt f ev) := ⟨fun fr => (pe_callB hc hg hm hv (ha.pa fr) hn hdb he hpl).weak fun σ H Q ⟨F, ow, env, r, env', R, ee, k⟩ => by
  obtain ⟨ds, h1, h3⟩ := evBlt_some ee
  exact ⟨F, ow, env, ds, env', R, h1, fun vs F' H' ow' R' g hq rs => ⟨F', ds, r, R'.fh, rs, h3, out_of R' g hq k⟩⟩⟩
theorem se_callTy {x : Str} {p : Pos} {T : String} {q : Bool} {ev : EvA} {f : List PyData → Option Slot} (hc : CallV X (.type T) f) (hg : Gl X x) (hm : X.mg x = none) (hv : bootBuiltins x = some (.type T)) (ha : SAB E X (e :: es) q ev)
    (hn : x ≠ "__name__" := by decide) (hdb : (x == ("__debug__" : Str)) = false := by decide) (he : starEach (e :: es) X.env = (false, eval e X.env) :: starEach es X.env := by rfl) (hpl : (backTo pos (starEach es X.env)).any (·.1) = false := by rfl) :
    SE E X (.Call (.Name x p) (e :: es) [] pos) q (evBlt f ev) := ⟨fun fr => (pe_callTy hc hg hm hv (ha.pa fr) hn hdb he hpl).weak fun σ H Q ⟨F, ow, env, r, env', R, ee, k⟩ => by
  obtain ⟨ds, h1, h3⟩ := evBlt_some ee
  exact ⟨F, ow, env, ds, env', R, h1, fun vs F' H' ow' R' g hq rs => ⟨F', ds, r, R'.fh, rs, h3, out_of R' g hq k⟩⟩⟩
/-! methods of texts and the like, by values -/
def rMtV (f : PyData → List PyData → Option Slot) : V → List V → Hp → VK → Prop := fun x xs H Q => ∃ F d ds r, Ex F H ∧ RpL F H x d ∧ RpLA F H xs ds ∧ f d ds = some r ∧ OutV F H r Q
def MtV (X : Cx) (id : String) (f : PyData → List PyData → Option Slot) : Prop := MtR X id (rMtV f)
theorem MtV.of {id : String} {f : PyData → List PyData → Option Slot} {r0 : V → List V → Hp → VK → Prop} (h : MtR X id r0) (w : ∀ x xs H Q F d ds r, Ex F H → RpL F H x d → RpLA F H xs ds → f d ds = some r → OutV F H r Q → r0 x xs H Q) : MtV X id f := by
  intro pins s σ H x xs v us Q I rx rxs ⟨F, d, ds, r, ex, hd, hds, hr, k⟩
  exact h pins s σ H x xs v us Q I rx rxs (w x xs H Q F d ds r ex hd hds hr k)
def tyD (T : String) : PyData → Bool
  | .str _ => decide (T = "str")
  | .list _ => decide (T = "list")
  | _ => false
theorem tyD_V {K : PySem.W.Frag} {T : String} {F H : Hp} {v : V} {d : PyData} (ex : Ex F H) (h : RpL F H v d) (t : tyD T d = true) : tyV K T v H := by
  unfold tyD at t
  split at t
  · have t' := of_decide_eq_true t
    rw [h.str]; exact t'
  · obtain ⟨p, vs, rfl, hp, _⟩ := h.lst ex
    have t' := of_decide_eq_true t
    exact .inl ⟨t', vs, SqL.of hp⟩
  · cases t
def evMt (T : String) (f : PyData → List PyData → Option Slot) (o : EvB) (a : EvA) : EvE := fun env => (o env).bind fun p => if tyD T p.1 = true then (a p.2).bind fun q => (f p.1 q.1).map fun r => (r, q.2) else none
theorem se_meth {name : Str} {T id : String} {apos : Pos} {qo so qa : Bool} {evo : EvB} {eva : EvA} {f : PyData → List PyData → Option Slot} (pa : PlainAttrs T) (slot : PySem.Slot T name id) (hty : typeOf (.builtin id) = pure (.type "method_descriptor")) (hm : MtV X id f) (ho : SB E X o qo so evo) (ha : SAB E X (e :: es) qa eva)
    (hc : (qa || so) = true := by rfl)
    (hbase : attributeBase o name X.env (eval o X.env) = eval o X.env := by rfl)
    (hfew : ((backTo pos (starEach (e :: es) X.env)).all (fun x => !x.1) && (backToKw pos (keywordEach [] X.env)).all (fun x => x.1.isSome)
      && decide ((e :: es).length + ([] : List Keyword).length + (if ([] : List Keyword).isEmpty then 0 else 1) < 30)) = true := by rfl)
    (hline : (apos.endLine == pos.line) = true := by rfl) (hs : starEach (e :: es) X.env = (false, eval e X.env) :: starEach es X.env := by rfl) (hplain : (backTo pos (starEach es X.env)).any (·.1) = false := by rfl) :
    SE E X (.Call (.Attribute o name apos) (e :: es) [] pos) (qo && qa) (evMt T f evo eva) := ⟨fun fr => (pe_bm pa slot hty hm (ho.pe fr) (ha.pa fr) hbase hfew hline hs hplain).weak fun σ H Q ⟨F, ow, env, r, env', R, ee, k⟩ => by
  obtain ⟨⟨d, e1⟩, h1, h⟩ := bind2 ee
  by_cases z : tyD T d = true
  · have h' : (if tyD T d = true then (eva e1).bind fun q => (f d q.1).map fun r => (r, q.2) else none) = some (r, env') := h
    rw [if_pos z] at h'
    obtain ⟨⟨ds, e2⟩, h2, h'⟩ := bind2 h'
    obtain ⟨s, h4, h'⟩ := Option.map_eq_some_iff.mp h'
    cases h'
    refine ⟨F, ow, env, d, e1, R, h1, fun x F1 H1 ow1 R1 g1 q1 r1 => ⟨tyD_V R1.fh r1.l z, F1, ow1, e1, ds, e2, R1, h2, fun vs F2 H2 ow2 R2 g2 q2 r2 => ?_⟩⟩
    exact ⟨F2, d, ds, _, R2.fh, r1.mono g2 q2 hc, r2, h4, out_of R2 (g1.tr g2) (fun z => (q1 (and1 z)).tr (q2 (and2 z))) k⟩
  · have h' : (if tyD T d = true then (eva e1).bind fun q => (f d q.1).map fun r => (r, q.2) else none) = some (r, env') := h
    rw [if_neg z] at h'
    cases h'⟩
/-! the rules for the built-ins -/
theorem RpLA.one {F H : Hp} {xs : List V} {d : PyData} (h : RpLA F H xs [d]) : ∃ v, xs = [v] ∧ RpL F H v d := by
  cases h with
  | cons a r => cases r; exact ⟨_, rfl, a⟩
theorem RpLA.two {F H : Hp} {xs : List V} {d d' : PyData} (h : RpLA F H xs [d, d']) : ∃ v v', xs = [v, v'] ∧ RpL F H v d ∧ RpL F H v' d' := by
  cases h with
  | cons a r =>
    obtain ⟨v, rfl, b⟩ := RpLA.one r
    exact ⟨_, _, rfl, a, b⟩
def cLen : List PyData → Option Slot
  | [.str z] => if z.length ≤ sizeLine then some (.pur (.int (z.length : Nat))) else none
  | [.list ds] => some (.pur (.int (ds.length : Nat)))
  | [.tuple ds] => some (.pur (.int (ds.length : Nat)))
  | _ => none
theorem cv_len : CallV X (.builtin "len") cLen := .of call_len fun xs H Q F ds r ex hd hr k => by
  unfold cLen at hr
  split at hr
  · split at hr
    · rename_i z
      cases hr
      obtain ⟨v, rfl, h⟩ := hd.one
      have e := h.str
      subst e
      exact ⟨_, _, rfl, ⟨z, rfl⟩, k.data ex (.int _)⟩
    · cases hr
  · cases hr
    obtain ⟨v, rfl, h⟩ := hd.one
    obtain ⟨p, vs, rfl, hp, rp⟩ := h.lst ex
    exact ⟨_, _, rfl, .inl ⟨vs, SqL.of hp, rp.length.symm⟩, k.data ex (.int _)⟩
  · cases hr
    obtain ⟨v, rfl, h⟩ := hd.one
    obtain ⟨p, vs, rfl, hp, rp⟩ := h.tup
    exact ⟨_, _, rfl, .inr ⟨vs, hp.sq ex, rp.length.symm⟩, k.data ex (.int _)⟩
  · cases hr
def cAbs : List PyData → Option Slot
  | [.int i] => some (.pur (.int (if i < 0 then -i else i)))
  | _ => none
theorem cv_abs : CallV X (.builtin "abs") cAbs := .of call_abs fun xs H Q F ds r ex hd hr k => by
  unfold cAbs at hr
  split at hr
  · cases hr
    obtain ⟨v, rfl, h⟩ := hd.one
    have e := h.int
    subst e
    exact ⟨_, rfl, k.data ex (.int _)⟩
  · cases hr
def cMax2 : List PyData → Option Slot
  | [.int i, .int j] => some (.pur (.int (if j > i then j else i)))
  | _ => none
def cMin2 : List PyData → Option Slot
  | [.int i, .int j] => some (.pur (.int (if j < i then j else i)))
  | _ => none
theorem cv_max2 (hc : X.calm = true) : CallV X (.builtin "max") cMax2 := .of (call_max2 hc) fun xs H Q F ds r ex hd hr k => by
  unfold cMax2 at hr
  split at hr
  · cases hr
    obtain ⟨v, w, rfl, h, h'⟩ := hd.two
    have e := h.int
    have e' := h'.int
    subst e e'
    exact ⟨_, _, rfl, k.data ex (.int _)⟩
  · cases hr
theorem cv_min2 (hc : X.calm = true) : CallV X (.builtin "min") cMin2 := .of (call_min2 hc) fun xs H Q F ds r ex hd hr k => by
  unfold cMin2 at hr
  split at hr
  · cases hr
    obtain ⟨v, w, rfl, h, h'⟩ := hd.two
    have e := h.int
    have e' := h'.int
    subst e e'
    exact ⟨_, _, rfl, k.data ex (.int _)⟩
  · cases hr
def cInt : List PyData → Option Slot
  | [.int i] => some (.pur (.int i))
  | [.bool k] => some (.pur (.int (if k then 1 else 0)))
  | _ => none
theorem cv_int : CallV X (.type "int") cInt := .of call_int1 fun xs H Q F ds r ex hd hr k => by
  unfold cInt at hr
  split at hr
  · cases hr
    obtain ⟨v, rfl, h⟩ := hd.one
    have e := h.int
    subst e
    exact .inl ⟨_, rfl, k.data ex (.int _)⟩
  · cases hr
    obtain ⟨v, rfl, h⟩ := hd.one
    have e := h.bl
    subst e
    exact .inr ⟨_, rfl, k.data ex (.int _)⟩
  · cases hr
/-- ints of data -/
def intsD : List PyData → Option (List Int)
  | [] => some []
  | .int i :: ds => (intsD ds).map (i :: ·)
  | _ :: _ => none
theorem intsD_map : ∀ {ds : List PyData} {ns : List Int}, intsD ds = some ns → ds = ns.map PyData.int
  | [], ns, h => by cases h; rfl
  | .int i :: ds, ns, h => by
    obtain ⟨m, hm, e⟩ := Option.map_eq_some_iff.mp h
    subst e
    rw [List.map_cons, ← intsD_map hm]
  | .none :: _, _, h => by cases h
  | .bool _ :: _, _, h => by cases h
  | .str _ :: _, _, h => by cases h
  | .list _ :: _, _, h => by cases h
  | .tuple _ :: _, _, h => by cases h
  | .dict _ :: _, _, h => by cases h
theorem intsD_of : ∀ (ns : List Int), intsD (ns.map PyData.int) = some ns
  | [] => rfl
  | n :: ns => by rw [List.map_cons, intsD, intsD_of ns]; rfl
def cSum : List PyData → Option Slot
  | [.list ds] => (intsD ds).map fun ns => .pur (.int ns.sum)
  | _ => none
theorem cv_sum (hc : X.calm = true) : CallV X (.builtin "sum") cSum := .of (cr_sum hc) fun xs H Q F ds r ex hd hr k => by
  unfold cSum at hr
  split at hr
  · obtain ⟨ns, h1, e⟩ := Option.map_eq_some_iff.mp hr
    subst e
    obtain ⟨v, rfl, h⟩ := hd.one
    obtain ⟨p, vs, rfl, hp, rp⟩ := h.lst ex
    rw [intsD_map h1] at rp
    have e := RpA.of_ints rp
    subst e
    exact ⟨p, ns, rfl, SqL.of hp, k.data ex (.int _)⟩
  · cases hr
def cList : List PyData → Option Slot
  | [.list ds] => some (.own false ds)
  | [.tuple ds] => some (.own false ds)
  | _ => none
theorem cv_list : CallV X (.type "list") cList := .of call_list_of fun xs H Q F ds r ex hd hr k => by
  unfold cList at hr
  split at hr
  · cases hr
    obtain ⟨v, rfl, h⟩ := hd.one
    obtain ⟨p, vs, rfl, hp, rp⟩ := h.lst ex
    exact ⟨p, vs, rfl, .inl (SqL.of hp), fun l hl => k.newL ex rp hl⟩
  · cases hr
    obtain ⟨v, rfl, h⟩ := hd.one
    obtain ⟨p, vs, rfl, hp, rp⟩ := h.tup
    exact ⟨p, vs, rfl, .inr (hp.sq ex), fun l hl => k.newL ex rp hl⟩
  · cases hr
end
end IX

/-! text IX7 -/
set_option maxHeartbeats 1000000
namespace IX
open PySem PySem.Spec PyProof.Rows L2
variable [KC]

section
variable {E : ExtK} {fr : Fra} {F H F' H' F0 H0 : Hp} {ow ow' ow0 : Ow} {env env' : SEnv} {σ : L2.St} {v : V} {r : Slot} {i : Nat}
/-! ### stores -/
theorem set_get_some {α : Type} {l : List α} {i : Nat} {a b : α} (h : l[i]? = some b) : (l.set i a)[i]? = some a := by
  have hl := (List.getElem?_eq_some_iff.mp h).1
  rw [List.getElem?_set_self hl]
open Classical in
/-- slot i takes a result -/
theorem Rel.store' {s : Slot} {S : Addr → Prop} (R : Rel E fr F H ow env σ) (hi : env[i]? = some s) (hp : s.par = false) (h1 : r.par = false) (hS : ∀ a, S a → ow a = none ∧ F a = none ∧ fr.B a = none ∧ H a ≠ none) (hs : Sl E F H S v r) :
    ∃ ow', Rel E fr F H ow' (env.set i r) (σ.set i (some v)) ∧ ∀ a, ow a = none → ¬ S a → ow' a = none := by
  refine ⟨fun a => if S a then some i else if ow a = some i then none else ow a, ?_, fun a n z => by
    show (if S a then some i else if ow a = some i then none else ow a) = none
    rw [if_neg z, n, if_neg (fun z => nomatch z)]⟩
  have hl : i < σ.length := by rw [← R.len]; exact (List.getElem?_eq_some_iff.mp hi).1
  refine ⟨R.fh, R.f0, R.bh, R.fb, R.dom, fun a j e => ?_, by rw [List.length_set, List.length_set]; exact R.len, fun j s' e => ?_, fun j s' e hp' => ?_⟩
  · by_cases z : S a
    · obtain ⟨_, f, b, hh⟩ := hS a z
      exact ⟨f, b, hh⟩
    · have e' : (if S a then some i else if ow a = some i then none else ow a) = some j := e
      rw [if_neg z] at e'
      split at e'
      · cases e'
      · exact R.sep a j e'
  · rcases get_set_of e with ⟨rfl, rfl⟩ | ⟨nj, e⟩
    · refine .inr ⟨v, by rw [List.getElem?_set_self hl], hs.mono E (Ex.refl _) (fun a sa => ?_) fun _ _ => rfl⟩
      show (if S a then some j else if ow a = some j then none else ow a) = some j
      rw [if_pos sa]
    · rcases R.sl j s' e with z | ⟨u, e3, q⟩
      · exact .inl z
      · refine .inr ⟨u, by rw [List.getElem?_set_ne (Ne.symm nj)]; exact e3, q.mono E (Ex.refl _) (fun a (ha : ow a = some j) => ?_) fun _ _ => rfl⟩
        show (if S a then some i else if ow a = some i then none else ow a) = some j
        have nS : ¬ S a := fun z => by rw [(hS a z).1] at ha; cases ha
        rw [if_neg nS, if_neg (fun z => by rw [ha] at z; cases z; exact nj rfl)]
        exact ha
  · rcases get_set_of e with ⟨rfl, rfl⟩ | ⟨nj, e⟩
    · rw [h1] at hp'; cases hp'
    · obtain ⟨u, e1, e2⟩ := R.pr j s' e hp'
      exact ⟨u, e1, by rw [List.getElem?_set_ne (Ne.symm nj)]; exact e2⟩

theorem Rel.store {s : Slot} (R : Rel E fr F H ow env σ) (hi : env[i]? = some s) (hp : s.par = false) (rs : Res E fr H0 ow0 F H ow v r) :
    ∃ ow', Rel E fr F H ow' (env.set i r) (σ.set i (some v)) := by
  obtain ⟨h1, h2, S, hS, hs⟩ := rs
  obtain ⟨ow', h, _⟩ := R.store' hi hp h1 (fun a sa => ⟨(hS a sa).1, (hS a sa).2.1, (hS a sa).2.2.1, (hS a sa).2.2.2.1⟩) hs
  exact ⟨ow', h⟩

/-- .. data: nothing is taken over -/
theorem Rel.storeP {s : Slot} {d : PyData} (R : Rel E fr F H ow env σ) (hi : env[i]? = some s) (hp : s.par = false) (rs : Rp F v d) :
    Rel E fr F H (fun a => if ow a = some i then none else ow a) (env.set i (.pur d)) (σ.set i (some v)) := by
  have hl : i < σ.length := by rw [← R.len]; exact (List.getElem?_eq_some_iff.mp hi).1
  refine ⟨R.fh, R.f0, R.bh, R.fb, R.dom, fun a j e => ?_, by rw [List.length_set, List.length_set]; exact R.len, fun j s' e => ?_, fun j s' e hp' => ?_⟩
  · have e' : (if ow a = some i then none else ow a) = some j := e
    split at e'
    · cases e'
    · exact R.sep a j e'
  · rcases get_set_of e with ⟨rfl, rfl⟩ | ⟨nj, e⟩
    · exact .inr ⟨v, by rw [List.getElem?_set_self hl], rs⟩
    · rcases R.sl j s' e with z | ⟨u, e3, q⟩
      · exact .inl z
      · refine .inr ⟨u, by rw [List.getElem?_set_ne (Ne.symm nj)]; exact e3, q.mono E (Ex.refl _) (fun a (ha : ow a = some j) => ?_) fun _ _ => rfl⟩
        show (if ow a = some i then none else ow a) = some j
        rw [if_neg (fun z => by rw [ha] at z; cases z; exact nj rfl)]
        exact ha
  · rcases get_set_of e with ⟨rfl, rfl⟩ | ⟨nj, e⟩
    · cases hp'
    · obtain ⟨u, e1, e2⟩ := R.pr j s' e hp'
      exact ⟨u, e1, by rw [List.getElem?_set_ne (Ne.symm nj)]; exact e2⟩
end
end IX

/-! text IX8 -/
set_option maxHeartbeats 1000000
namespace IX
open PySem PySem.Spec PyProof.Rows L2
variable [KC]

inductive Out where
  | nxt (e : SEnv)
  | ret (r : Slot) (e : SEnv)
  | brk (e : SEnv)
  | cnt (e : SEnv)
abbrev EvS := SEnv → Option Out
section
variable (E : ExtK) (fr : Fra)
def OutK (F : Hp) (D : Ends) : Out → Prop
  | .nxt e => ∀ F' H' ow' σ', Rel E fr F' H' ow' e σ' → Ex F F' → D.nx σ' H'
  | .brk e => ∀ F' H' ow' σ', Rel E fr F' H' ow' e σ' → Ex F F' → D.bk σ' H'
  | .cnt e => ∀ F' H' ow' σ', Rel E fr F' H' ow' e σ' → Ex F F' → D.ct σ' H'
  | .ret r e => ∀ v F' H' ow' σ' H0 ow0, Rel E fr F' H' ow' e σ' → Ex F F' → Res E fr H0 ow0 F' H' ow' v r → D.rt v H'
def TSv (x : EvS) : TS := fun D σ H => ∃ F ow env o, Rel E fr F H ow env σ ∧ x env = some o ∧ OutK E fr F D o
/-- targets, of data -/
def TGv (ts : List Nat) (g : PyData → SEnv → Option SEnv) : TG := fun v σ H Q => ∃ F ow env d env', Rel E fr F H ow env σ ∧ Rp F v d ∧ g d env = some env' ∧
  ∀ F' H' ow' σ', Rel E fr F' H' ow' env' σ' → Grow F H ow F' H' ow' → (∀ j, j ∉ ts → σ'[j]? = σ[j]?) ∧ σ'.length = σ.length → Q σ' H'
def TGsv (ts : List Nat) (g : List PyData → SEnv → Option SEnv) : TGs := fun vs σ H Q => ∃ F ow env ds env', Rel E fr F H ow env σ ∧ RpA F vs ds ∧ g ds env = some env' ∧
  ∀ F' H' ow' σ', Rel E fr F' H' ow' env' σ' → Grow F H ow F' H' ow' → (∀ j, j ∉ ts → σ'[j]? = σ[j]?) ∧ σ'.length = σ.length → Q σ' H'
end
structure SS (E : ExtK) (X : Cx) (st : Stmt) (x : EvS) : Prop where
  ps : ∀ fr, PS X st (TSv E fr x)
structure SSs (E : ExtK) (X : Cx) (st : List Stmt) (x : EvS) : Prop where
  ps : ∀ fr, PSs X st (TSv E fr x)
structure SG (E : ExtK) (X : Cx) (tg : Expr) (ts : List Nat) (g : PyData → SEnv → Option SEnv) : Prop where
  pg : ∀ fr, PG X tg (TGv E fr ts g)
structure SGs (E : ExtK) (X : Cx) (tg : List Expr) (ts : List Nat) (g : List PyData → SEnv → Option SEnv) : Prop where
  pg : ∀ fr, PGs X tg (TGsv E fr ts g)
section
variable {E : ExtK} {X : Cx} [KX X] {fr : Fra} {F F' : Hp} {D : Ends} {o : Out} {st : Stmt} {sts : List Stmt} {x y : EvS} {e a b c : Expr} {es : List Expr} {pos pos' : Pos}
theorem OutK.mono (h : OutK E fr F D o) (f : Ex F F') : OutK E fr F' D o := by
  cases o with
  | nxt e => exact fun F2 H' ow' σ' R g => h F2 H' ow' σ' R (f.tr g)
  | brk e => exact fun F2 H' ow' σ' R g => h F2 H' ow' σ' R (f.tr g)
  | cnt e => exact fun F2 H' ow' σ' R g => h F2 H' ow' σ' R (f.tr g)
  | ret r e => exact fun v F2 H' ow' σ' H0 ow0 R g => h v F2 H' ow' σ' H0 ow0 R (f.tr g)
/-! ### targets -/
def stS (i : Nat) (r : Slot) (env : SEnv) : Option SEnv := match env[i]? with
  | some s => if s.par = true then none else some (env.set i r)
  | none => none
theorem stS_some {i : Nat} {r : Slot} {env env' : SEnv} (h : stS i r env = some env') : ∃ s, env[i]? = some s ∧ s.par = false ∧ env' = env.set i r := by
  unfold stS at h
  split at h
  · rename_i s e1
    split at h
    · cases h
    · rename_i z
      cases h
      exact ⟨s, e1, by simpa using z, rfl⟩
  · cases h
def gN (i : Nat) : PyData → SEnv → Option SEnv := fun d env => stS i (.pur d) env
theorem sg_name {i : Nat} {z : Str} (hN : X.N.Nodup) (hi : X.N[i]? = some z) (hx : Loc X.env.scope z) (hf : X.fn z = true ∨ X.env.scope.names.lookup z = some .local := by first | exact .inl rfl | exact .inr rfl | assumption) : SG E X (.Name z pos) [i] (gN i) := ⟨fun fr => (pg_name hN hi hx hf).weak fun v σ H Q ⟨F, ow, env, d, env', R, r, ee, k⟩ => by
  obtain ⟨s, h1, h2, rfl⟩ := stS_some ee
  exact k F H _ _ (R.storeP h1 h2 r) Grow.drop ⟨fun j n => List.getElem?_set_ne (fun z => n (by simp [z])), List.length_set⟩⟩
def gsN : List PyData → SEnv → Option SEnv
  | [], env => some env
  | _, _ => none
def gsC (g : PyData → SEnv → Option SEnv) (h : List PyData → SEnv → Option SEnv) : List PyData → SEnv → Option SEnv
  | d :: ds, env => (g d env).bind fun e => h ds e
  | [], _ => none
theorem sgs_nil : SGs E X [] [] gsN := ⟨fun fr => ⟨fun pins s σ H vs us Q I r ⟨F, ow, env, ds, env', R, rs, ee, k⟩ => by
  refine pgs_nil.run pins s σ H vs us Q I r ?_
  unfold gsN at ee
  split at ee
  · cases ee
    cases rs
    exact ⟨rfl, k F H ow σ R Grow.refl ⟨fun _ _ => rfl, rfl⟩⟩
  · cases ee⟩⟩
theorem sgs_cons {g : PyData → SEnv → Option SEnv} {h : List PyData → SEnv → Option SEnv} {t1 t2 : List Nat} (h1 : SG E X e t1 g) (h2 : SGs E X es t2 h) (hs : (assignEach (e :: es) X.env).map (·.2) = assign e X.env :: (assignEach es X.env).map (·.2) := by rfl) : SGs E X (e :: es) (t1 ++ t2) (gsC g h) := ⟨fun fr => ⟨fun pins s σ H vs us Q I r ⟨F, ow, env, ds, env', R, rs, ee, k⟩ => by
  refine (pgs_cons (h1.pg fr) (h2.pg fr) hs).run pins s σ H vs us Q I r ?_
  unfold gsC at ee
  split at ee
  · obtain ⟨e1, q1, q2⟩ := bind2 ee
    cases rs with
    | cons r1 r2 =>
      exact ⟨_, _, rfl, F, ow, env, _, e1, R, r1, q1, fun F1 H1 ow1 σ1 R1 g1 n1 => ⟨F1, ow1, e1, _, env', R1, RpA.mono g1.f _ _ r2, q2, fun F2 H2 ow2 σ2 R2 g2 n2 => k F2 H2 ow2 σ2 R2 (g1.tr g2) ⟨fun j n => (n2.1 j fun z => n (by simp [z])).trans (n1.1 j fun z => n (by simp [z])), n2.2.trans n1.2⟩⟩⟩
  · cases ee⟩⟩
def gT (n : Nat) (h : List PyData → SEnv → Option SEnv) : PyData → SEnv → Option SEnv
  | .tuple ds, env => if ds.length = n then h ds env else none
  | .list ds, env => if ds.length = n then h ds env else none
  | _, _ => none
theorem PG_or {t1 t2 : TG} (h1 : PG X e t1) (h2 : PG X e t2) : PG X e (fun v σ H Q => t1 v σ H Q ∨ t2 v σ H Q) := ⟨fun pins s σ H v u Q I r k => k.elim (h1.run pins s σ H v u Q I r) (h2.run pins s σ H v u Q I r)⟩
theorem sg_tup {k n : Nat} {h : List PyData → SEnv → Option SEnv} {ts : List Nat} (hc : X.calm = true) (hh : SGs E X es ts h) (hn : (assignEach es X.env).length = n := by rfl) (hst : (assignEach es X.env).findIdx? (·.1) = none := by rfl) : SG E X (.Tuple es k pos) ts (gT n h) := ⟨fun fr => (PG_or (pg_tup hc (hh.pg fr) hn hst) (pg_unl hc (hh.pg fr) hn hst)).weak fun v σ H Q ⟨F, ow, env, d, env', R, r, ee, k⟩ => by
  unfold gT at ee
  cases d with
  | tuple ds =>
    dsimp only at ee
    split at ee
    · rename_i z
      cases r with
      | tup hp r => exact .inl ⟨_, _, rfl, hp.sq R.fh, by rw [r.length]; exact z, F, ow, env, ds, env', R, r, ee, k⟩
    · cases ee
  | list ds =>
    dsimp only at ee
    split at ee
    · rename_i z
      cases r with
      | lst hp r => exact .inr ⟨_, _, rfl, SqL.of (R.fh _ _ hp), by rw [r.length]; exact z, F, ow, env, ds, env', R, r, ee, k⟩
    · cases ee
  | _ => cases ee⟩
/-! ### statements -/
def xNil : EvS := fun env => some (.nxt env)
def xSeq (x y : EvS) : EvS := fun env => match x env with
  | some (.nxt e) => y e
  | o => o
theorem sss_nil : SSs E X [] xNil := ⟨fun fr => pss_nil.weak fun D σ H ⟨F, ow, env, o, R, ee, k⟩ => by
  cases ee
  exact k F H ow σ R (Ex.refl _)⟩
theorem sss_cons (h1 : SS E X st x) (h2 : SSs E X sts y) : SSs E X (st :: sts) (xSeq x y) := ⟨fun fr => (pss_cons (h1.ps fr) (h2.ps fr)).weak fun D σ H ⟨F, ow, env, o, R, ee, k⟩ => by
  unfold xSeq at ee
  split at ee
  · rename_i e1 h
    refine ⟨F, ow, env, _, R, h, fun F' H' ow' σ' R' f => ⟨F', ow', e1, o, R', ee, k.mono f⟩⟩
  · rename_i n
    cases o with
    | nxt e => exact absurd ee (n e)
    | brk e => exact ⟨F, ow, env, _, R, ee, k⟩
    | cnt e => exact ⟨F, ow, env, _, R, ee, k⟩
    | ret r e => exact ⟨F, ow, env, _, R, ee, k⟩⟩
theorem sss_one (h1 : SS E X st x) : SSs E X [st] x := ⟨fun fr => pss_one (h1.ps fr)⟩
theorem ss_pass : SS E X (.Pass pos) xNil := ⟨fun fr => ps_pass.weak fun D σ H ⟨F, ow, env, o, R, ee, k⟩ => by
  cases ee
  exact k F H ow σ R (Ex.refl _)⟩
def xBrk : EvS := fun env => some (.brk env)
def xCnt : EvS := fun env => some (.cnt env)
theorem ss_break : SS E X (.Break pos) xBrk := ⟨fun fr => ps_break.weak fun D σ H ⟨F, ow, env, o, R, ee, k⟩ => by
  cases ee
  exact k F H ow σ R (Ex.refl _)⟩
theorem ss_continue : SS E X (.Continue pos) xCnt := ⟨fun fr => ps_continue.weak fun D σ H ⟨F, ow, env, o, R, ee, k⟩ => by
  cases ee
  exact k F H ow σ R (Ex.refl _)⟩
/-- never reached -/
def xNev : EvS := fun _ => none
theorem ss_never : SS E X st xNev := ⟨fun fr => ps_never.weak fun D σ H ⟨F, ow, env, o, R, ee, k⟩ => by cases ee⟩
def xDrop (ev : EvE) : EvS := fun env => (ev env).map fun p => .nxt p.2
theorem ss_expr {q : Bool} {ev : EvE} (h : SE E X e q ev) (hs : swapsWith e none pos.line X.env = pure false := by rfl) : SS E X (.Expr e pos) (xDrop ev) := ⟨fun fr => (ps_expr (h.pe fr) hs).weak fun D σ H ⟨F, ow, env, o, R, ee, k⟩ => by
  obtain ⟨⟨r, e1⟩, h1, h⟩ := Option.map_eq_some_iff.mp ee
  cases h
  exact ⟨F, ow, env, r, e1, R, h1, fun v F' H' ow' R' g hq rs => k F' H' ow' σ R' g.f⟩⟩
def xRet (ev : EvE) : EvS := fun env => (ev env).map fun p => .ret p.1 p.2
theorem ss_ret {q : Bool} {ev : EvE} (h : SE E X e q ev) : SS E X (.Return (some e) pos) (xRet ev) := ⟨fun fr => (ps_ret (h.pe fr)).weak fun D σ H ⟨F, ow, env, o, R, ee, k⟩ => by
  obtain ⟨⟨r, e1⟩, h1, h⟩ := Option.map_eq_some_iff.mp ee
  cases h
  exact ⟨F, ow, env, r, e1, R, h1, fun v F' H' ow' R' g hq rs => k v F' H' ow' σ _ _ R' g.f rs⟩⟩
def xRetN : EvS := fun env => some (.ret (.pur .none) env)
theorem ss_retN : SS E X (.Return none pos) xRetN := ⟨fun fr => ps_retN.weak fun D σ H ⟨F, ow, env, o, R, ee, k⟩ => by
  cases ee
  exact k _ F H ow σ H ow R (Ex.refl _) (Res.pur .non)⟩
def xIf (t : EvT) (x y : EvS) : EvS := fun env => (t env).bind fun p => if p.1 = true then x p.2 else y p.2
theorem ss_if {q : Bool} {t : EvT} {as bs : List Stmt} (ht : ST E X c q t) (ha : SSs E X as x) (hb : SSs E X bs y) : SS E X (.If c as bs pos) (xIf t x y) := ⟨fun fr => (ps_if (ht.pt fr) (ha.ps fr) (hb.ps fr)).weak fun D σ H ⟨F, ow, env, o, R, ee, k⟩ => by
  obtain ⟨⟨c, e1⟩, h1, h⟩ := bind2 ee
  refine ⟨F, ow, env, c, e1, R, h1, fun F' H' ow' R' g hq => ?_⟩
  cases c with
  | true => exact iteT ⟨F', ow', e1, o, R', h, k.mono g.f⟩
  | false => exact iteF ⟨F', ow', e1, o, R', h, k.mono g.f⟩⟩
/-! assignments -/
def xSet (i : Nat) (ev : EvE) : EvS := fun env => (ev env).bind fun p => (stS i p.1 p.2).map .nxt
theorem ss_set {i : Nat} {z : Str} {q : Bool} {ev : EvE} (hN : X.N.Nodup) (hi : X.N[i]? = some z) (hx : Loc X.env.scope z) (h : SE E X e q ev) (hs : swapsWith e (some (.Name z pos')) pos.line X.env = pure false := by rfl)
    (hf : X.fn z = true ∨ X.env.scope.names.lookup z = some .local := by first | exact .inl rfl | exact .inr rfl | assumption) : SS E X (.Assign [.Name z pos'] e pos) (xSet i ev) := ⟨fun fr => (ps_set hN hi hx (h.pe fr) hs hf).weak fun D σ H ⟨F, ow, env, o, R, ee, k⟩ => by
  obtain ⟨⟨r, e1⟩, h1, h⟩ := bind2 ee
  obtain ⟨e2, h2, h⟩ := Option.map_eq_some_iff.mp h
  cases h
  obtain ⟨s, h3, h4, rfl⟩ := stS_some h2
  refine ⟨F, ow, env, r, e1, R, h1, fun v F' H' ow' R' g hq rs => ?_⟩
  obtain ⟨ow2, R2⟩ := R'.store h3 h4 rs
  exact k F' H' ow2 _ R2 g.f⟩
def xSetT (g : PyData → SEnv → Option SEnv) (ev : EvB) : EvS := fun env => (ev env).bind fun p => (g p.1 p.2).map .nxt
theorem ss_asg {tg : Expr} {ts : List Nat} {g : PyData → SEnv → Option SEnv} {q : Bool} {ev : EvB} (h : SP E X e q ev) (hg : SG E X tg ts g) (hs : swapsWithSole [tg] e pos.line X.env = pure false := by rfl) (hw : swappedStores [tg] e X.env = pure none := by rfl)
    (h1 : (assignEach [tg] X.env).map (·.2) = [assign tg X.env] := by rfl) : SS E X (.Assign [tg] e pos) (xSetT g ev) := ⟨fun fr => (ps_asg (h.pe fr) (hg.pg fr) hs hw h1).weak fun D σ H ⟨F, ow, env, o, R, ee, k⟩ => by
  obtain ⟨⟨d, e1⟩, h1, h⟩ := bind2 ee
  obtain ⟨e2, h2, h⟩ := Option.map_eq_some_iff.mp h
  cases h
  exact ⟨F, ow, env, d, e1, R, h1, fun v F' H' ow' R' g hq rs => ⟨F', ow', e1, d, e2, R', rs, h2, fun F2 H2 ow2 σ2 R2 g2 _ => k F2 H2 ow2 σ2 R2 (g.f.tr g2.f)⟩⟩⟩
/-! name op= e -/
def xAug (i : Nat) (f : PyData → PyData → Option Slot) (ev : EvB) : EvS := fun env => match env[i]? with
  | some (.pur d) => (ev env).bind fun p => (f d p.1).bind fun r => (stS i r p.2).map .nxt
  | _ => none
theorem ss_aug {i : Nat} {z : Str} {op : Operator} {f : PyData → PyData → Option Slot} {q st : Bool} {ev : EvB} (hN : X.N.Nodup) (hi : X.N[i]? = some z) (hx : Loc X.env.scope z) (h : SB E X e q st ev) (ho : BinV X (inplaceOp op) f)
    (hf : X.fn z = true ∨ X.env.scope.names.lookup z = some .local := by first | exact .inl rfl | exact .inr rfl | assumption) : SS E X (.AugAssign (.Name z pos') op e pos) (xAug i f ev) := ⟨fun fr => (ps_aug (ti := rBinV f) hN hi hx (h.pe fr) ho hf).weak fun D σ H ⟨F, ow, env, o, R, ee, k⟩ => by
  unfold xAug at ee
  split at ee
  · rename_i d h0
    obtain ⟨⟨d', e1⟩, h1, h⟩ := bind2 ee
    obtain ⟨r, h2, h⟩ := bind2 h
    obtain ⟨e2, h3, h⟩ := Option.map_eq_some_iff.mp h
    cases h
    obtain ⟨s, h4, h5, rfl⟩ := stS_some h3
    rcases R.sl _ _ h0 with z | ⟨v, e2, rv⟩
    · cases z
    · refine ⟨v, e2, F, ow, env, d', e1, R, h1, fun w F' H' ow' R' g hq rs => ?_⟩
      refine ⟨F', d, d', r, R'.fh, .inl (Rp.mono g.f _ _ rv), rs.l, h2, out_of (q := false) R' Grow.refl (fun z => nomatch z) fun u F2 H2 ow2 R2 g2 _ rr => ?_⟩
      obtain ⟨ow3, R3⟩ := R2.store h4 h5 rr
      exact k F2 H2 ow3 _ R3 (g.f.tr g2.f)
  · cases ee⟩
/-! ### what is walked -/
/-- at each turn the next of these data comes, what is frozen stays -/
def Walk (J : It) (F : Hp) (ds : List PyData) : Prop := ∀ (i : Nat) (F1 H1 : Hp), Ex F F1 → Ex F1 H1 →
  (∀ d, ds[i]? = some d → J.go i H1 ∧ ∀ x H2, J.yld i H1 x H2 → ∃ F2, Alloc F1 H1 F2 H2 ∧ Rp F2 x d) ∧ (ds.length ≤ i → J.stop i H1)
def TIv (E : ExtK) (fr : Fra) (q : Bool) (ev : EvA) : TI := fun σ H R => ∃ F ow env ds env', Rel E fr F H ow env σ ∧ ev env = some (ds, env') ∧
  ∀ J F' H' ow', Rel E fr F' H' ow' env' σ → Grow F H ow F' H' ow' → (q = true → Ex H H') → Walk J F' ds → R J H'
structure SI (E : ExtK) (X : Cx) (tg iter : Expr) (q : Bool) (ev : EvA) : Prop where
  pi : ∀ fr, PI X tg iter (TIv E fr q ev)
theorem walk_list {K : PySem.W.Frag} {p : Addr} {vs : List V} {ds : List PyData} (hp : F p = some (.lst vs)) (r : RpA F vs ds) : Walk (Itl K p) F ds := fun i F1 H1 f fh => by
  have h1 : H1 p = some (.lst vs) := fh _ _ (f _ _ hp)
  refine ⟨fun d hd => ?_, fun hl => ⟨vs, SqL.of h1, by rw [r.length]; exact hl⟩⟩
  obtain ⟨v, hv, rv⟩ := r.get hd
  refine ⟨⟨vs, v, SqL.of h1, hv⟩, fun x H2 ⟨e, y⟩ => ?_⟩
  subst e
  have e2 := y vs (SqL.of h1)
  rw [hv] at e2
  cases e2
  exact ⟨F1, Alloc.refl fh, Rp.mono f _ _ rv⟩
theorem walk_tup {p : Addr} {vs : List V} {ds : List PyData} (hp : TpAt F p vs) (r : RpA F vs ds) : Walk (Itt X.K p) F ds := fun i F1 H1 f fh => by
  have h1 : SqT X.K H1 p vs := (hp.mono f).sq fh
  refine ⟨fun d hd => ?_, fun hl => ⟨vs, h1, by rw [r.length]; exact hl⟩⟩
  obtain ⟨v, hv, rv⟩ := r.get hd
  refine ⟨⟨vs, v, h1, hv⟩, fun x H2 ⟨e, y⟩ => ?_⟩
  subst e
  have e2 := y vs h1
  rw [hv] at e2
  cases e2
  exact ⟨F1, Alloc.refl fh, Rp.mono f _ _ rv⟩
def rangeD (lo : Int) (n : Nat) : List PyData := (List.range n).map fun i => .int (lo + (i : Nat))
theorem walk_range {lo : Int} {n : Nat} : Walk (Itr lo n) F (rangeD lo n) := fun i F1 H1 f fh => by
  unfold rangeD
  refine ⟨fun d hd => ?_, fun hl => by
    have hl' : n ≤ i := by simpa using hl
    exact hl'⟩
  rw [List.getElem?_map] at hd
  obtain ⟨j, hj, e⟩ := Option.map_eq_some_iff.mp hd
  obtain ⟨hl, e2⟩ := List.getElem?_eq_some_iff.mp hj
  have hl' : i < n := by simpa using hl
  have e3 : j = i := by rw [← e2]; simp
  subst e3 e
  refine ⟨hl', fun x H2 ⟨e, y⟩ => ?_⟩
  subst e y
  exact ⟨F1, Alloc.refl fh, .int _⟩
/-- a list, a tuple, a text -/
def charsD (z : Str) : List PyData := z.cps.toList.map fun c => .str ⟨#[c]⟩
def itemsA : PyData → Option (List PyData)
  | .list ds => some ds
  | .tuple ds => some ds
  | .str z => some (charsD z)
  | _ => none
def evIt (a : EvB) : EvA := fun env => (a env).bind fun p => (itemsA p.1).map fun ds => (ds, p.2)
theorem walk_str {F : Hp} {z : Str} : Walk (Its z) F (charsD z) := fun i F1 H1 f fh => by
  unfold charsD
  refine ⟨fun d hd => ?_, fun hl => by
    have : z.cps.size ≤ i := by simpa using hl
    exact this⟩
  rw [List.getElem?_map] at hd
  obtain ⟨c, hc, e⟩ := Option.map_eq_some_iff.mp hd
  subst e
  have hi : i < z.cps.size := by simpa using (List.getElem?_eq_some_iff.mp hc).1
  refine ⟨hi, fun x H2 ⟨e, c', hc', ex⟩ => ?_⟩
  subst e ex
  have : z.cps[i]? = some c := by simpa using hc
  rw [this] at hc'
  cases hc'
  exact ⟨F1, Alloc.refl fh, .str _⟩
theorem PI_or {tg : Expr} {t1 t2 : TI} (h1 : PI X tg e t1) (h2 : PI X tg e t2) : PI X tg e (fun σ H R => t1 σ H R ∨ t2 σ H R) := ⟨fun pins s σ H R I k => k.elim (h1.run pins s σ H R I) (h2.run pins s σ H R I)⟩
theorem PE_tMax {t : TE} {t1 : TE} (h : PE X e t) : True := trivial
theorem si_seq {tg : Expr} {q : Bool} {ev : EvB} (hsp : SP E X e q ev) : SI E X tg e q (evIt ev) := ⟨fun fr => ⟨fun pins s σ H R I ⟨F, ow, env, ds, env', Rl, ee, k⟩ => by
  obtain ⟨⟨d, e1⟩, h1, h⟩ := bind2 ee
  obtain ⟨is, h2, h⟩ := Option.map_eq_some_iff.mp h
  cases h
  cases d with
  | list ds0 =>
    cases h2
    refine (pi_list (hsp.pe fr)).run pins s σ H R I ⟨F, ow, env, _, e1, Rl, h1, fun v F' H' ow' R' g hq rs => ?_⟩
    cases rs with
    | lst hp r => exact ⟨_, rfl, ⟨_, SqL.of (R'.fh _ _ hp)⟩, k _ F' H' ow' R' g hq (walk_list hp r)⟩
  | tuple ds0 =>
    cases h2
    refine (pi_tup (hsp.pe fr)).run pins s σ H R I ⟨F, ow, env, _, e1, Rl, h1, fun v F' H' ow' R' g hq rs => ?_⟩
    cases rs with
    | tup hp r => exact ⟨_, rfl, ⟨_, hp.sq R'.fh⟩, k _ F' H' ow' R' g hq (walk_tup hp r)⟩
  | str z =>
    cases h2
    refine (pi_str (hsp.pe fr)).run pins s σ H R I ⟨F, ow, env, _, e1, Rl, h1, fun v F' H' ow' R' g hq rs => ?_⟩
    cases rs
    exact ⟨_, rfl, k _ F' H' ow' R' g hq walk_str⟩
  | _ => cases h2⟩⟩
def cRange1 : List PyData → Option (List PyData)
  | [.int j] => if -(2 ^ 62) ≤ j ∧ j < 2 ^ 62 then some (rangeD 0 j.toNat) else none
  | _ => none
def cRange2 : List PyData → Option (List PyData)
  | [.int i, .int j] => if -(2 ^ 62) ≤ i ∧ i < 2 ^ 62 ∧ -(2 ^ 62) ≤ j ∧ j < 2 ^ 62 then some (rangeD i (j - i).toNat) else none
  | _ => none
theorem cRange1_some {as ds : List PyData} (h : cRange1 as = some ds) : ∃ j : Int, as = [.int j] ∧ (-(2 ^ 62) ≤ j ∧ j < 2 ^ 62) ∧ ds = rangeD 0 j.toNat := by
  unfold cRange1 at h
  split at h
  · split at h
    · cases h; exact ⟨_, rfl, by assumption, rfl⟩
    · cases h
  · cases h
theorem cRange2_some {as ds : List PyData} (h : cRange2 as = some ds) : ∃ i j : Int, as = [.int i, .int j] ∧ (-(2 ^ 62) ≤ i ∧ i < 2 ^ 62 ∧ -(2 ^ 62) ≤ j ∧ j < 2 ^ 62) ∧ ds = rangeD i (j - i).toNat := by
  unfold cRange2 at h
  split at h
  · split at h
    · cases h; exact ⟨_, _, rfl, by assumption, rfl⟩
    · cases h
  · cases h
def evIter (f : List PyData → Option (List PyData)) (a : EvA) : EvA := fun env => (a env).bind fun p => (f p.1).map fun ds => (ds, p.2)
theorem si_range1 {tg : Expr} {p : Pos} {q : Bool} {ev : EvA} (hg : Gl X "range") (hm : X.mg "range" = none) (h : SAB E X [a] q ev) (hs : starEach [a] X.env = [(false, eval a X.env)] := by rfl) : SI E X tg (.Call (.Name "range" p) [a] [] pos) q (evIter cRange1 ev) := ⟨fun fr => (pi_range1 hg hm (h.pa fr) hs).weak fun σ H R ⟨F, ow, env, ds, env', Rl, ee, k⟩ => by
  obtain ⟨⟨as, e1⟩, h1, h⟩ := bind2 ee
  obtain ⟨is, h2, h⟩ := Option.map_eq_some_iff.mp h
  cases h
  obtain ⟨j, rfl, z, rfl⟩ := cRange1_some h2
  refine ⟨F, ow, env, _, e1, Rl, h1, fun vs F' H' ow' R' g hq rs => ?_⟩
  obtain ⟨v, rfl, rv⟩ := rs.one
  have e := rv.int
  subst e
  exact ⟨_, rfl, z.1, z.2, k _ F' H' ow' R' g hq walk_range⟩⟩
theorem si_range2 {tg : Expr} {p : Pos} {q : Bool} {ev : EvA} (hg : Gl X "range") (hm : X.mg "range" = none) (h : SAB E X [a, b] q ev) (hs : starEach [a, b] X.env = [(false, eval a X.env), (false, eval b X.env)] := by rfl) (hs2 : starEach [b] X.env = [(false, eval b X.env)] := by rfl) : SI E X tg (.Call (.Name "range" p) [a, b] [] pos) q (evIter cRange2 ev) := ⟨fun fr => (pi_range2 hg hm (h.pa fr) hs hs2).weak fun σ H R ⟨F, ow, env, ds, env', Rl, ee, k⟩ => by
  obtain ⟨⟨as, e1⟩, h1, h⟩ := bind2 ee
  obtain ⟨is, h2, h⟩ := Option.map_eq_some_iff.mp h
  cases h
  obtain ⟨i, j, rfl, z, rfl⟩ := cRange2_some h2
  refine ⟨F, ow, env, _, e1, Rl, h1, fun vs F' H' ow' R' g hq rs => ?_⟩
  obtain ⟨v, w, rfl, rv, rw'⟩ := rs.two
  have e := rv.int
  have e' := rw'.int
  subst e e'
  exact ⟨_, _, rfl, z, k _ F' H' ow' R' g hq walk_range⟩⟩
/-! ### for -/
def forL (g : PyData → SEnv → Option SEnv) (x : EvS) : List PyData → EvS
  | [], env => some (.nxt env)
  | d :: ds, env => match g d env with
    | none => none
    | some e => match x e with
      | some (.nxt e') => forL g x ds e'
      | some (.cnt e') => forL g x ds e'
      | some (.brk e') => some (.nxt e')
      | some (.ret r e') => some (.ret r e')
      | none => none
def xFor (it : EvA) (g : PyData → SEnv → Option SEnv) (x : EvS) : EvS := fun env => (it env).bind fun p => forL g x p.1 p.2
theorem ss_for {tg iter : Expr} {body : List Stmt} {q : Bool} {it : EvA} {ts : List Nat} {g : PyData → SEnv → Option SEnv} (hp : PassesOwn (model X.prog X.w) X.A X.env X.xe) (hc : X.calm = true) (hi : SI E X tg iter q it) (hg : SG E X tg ts g) (hb : SSs E X body x)
    (hs : ∀ x, foldedSetIterable iter X.env x = pure x := by intro _; rfl) : SS E X (.For tg iter body [] pos) (xFor it g x) := ⟨fun fr => (ps_for hp hc (hi.pi fr) (hg.pg fr) (hb.ps fr) hs).weak fun D σ H ⟨F, ow, env, o, R, ee, k⟩ => by
  obtain ⟨⟨ds, e1⟩, h1, h⟩ := bind2 ee
  refine ⟨F, ow, env, ds, e1, R, h1, fun J F1 H1 ow1 R1 g1 hq wk => ?_⟩
  refine ⟨fun i m σ2 H2 => m = ds.length - i ∧ i ≤ ds.length ∧ ∃ F2 ow2 e2, Rel E fr F2 H2 ow2 e2 σ2 ∧ Ex F1 F2 ∧ forL g x (ds.drop i) e2 = some o, ⟨ds.length, by simp, Nat.zero_le _, F1, ow1, e1, R1, Ex.refl _, by simpa using h⟩, ?_⟩
  rintro i m σ2 H2 ⟨rfl, hle, F2, ow2, e2, R2, f2, h2⟩
  obtain ⟨w1, w2⟩ := wk i F2 H2 f2 R2.fh
  by_cases hlt : i < ds.length
  · obtain ⟨d, hd⟩ : ∃ d, ds[i]? = some d := ⟨ds[i], by simp [hlt]⟩
    have hdrop : ds.drop i = d :: ds.drop (i + 1) := by
      rw [List.drop_eq_getElem_cons hlt]
      congr 1
      simpa [hlt] using hd
    rw [hdrop, forL] at h2
    obtain ⟨go, yl⟩ := w1 d hd
    refine .inr ⟨go, fun σ3 H3 => ∃ F3 ow3 e3, Rel E fr F3 H3 ow3 e3 σ3 ∧ Ex F1 F3 ∧ forL g x (ds.drop (i + 1)) e3 = some o, fun σ3 H3 ⟨F3, ow3, e3, R3, f3, h3⟩ => ⟨ds.length - (i + 1), by omega, rfl, hlt, F3, ow3, e3, R3, f3, h3⟩, fun y H3 hy => ?_⟩
    obtain ⟨F3, al, ry⟩ := yl y H3 hy
    have R3 := R2.alloc al
    cases hg' : g d e2 with
    | none => rw [hg'] at h2; cases h2
    | some e3 =>
      rw [hg'] at h2
      dsimp only at h2
      refine ⟨F3, ow2, e2, d, e3, R3, ry, hg', fun F4 H4 ow4 σ4 R4 g4 _ => ?_⟩
      have f14 : Ex F1 F4 := (f2.tr al.f).tr g4.f
      have km : OutK E fr F4 D o := k.mono (g1.f.tr f14)
      cases hx : x e3 with
      | none => rw [hx] at h2; cases h2
      | some ob =>
        rw [hx] at h2
        refine ⟨F4, ow4, e3, ob, R4, hx, ?_⟩
        cases ob with
        | nxt e' => exact fun F5 H5 ow5 σ5 R5 f5 => ⟨F5, ow5, e', R5, f14.tr f5, h2⟩
        | cnt e' => exact fun F5 H5 ow5 σ5 R5 f5 => ⟨F5, ow5, e', R5, f14.tr f5, h2⟩
        | brk e' =>
          cases h2
          exact fun F5 H5 ow5 σ5 R5 f5 => km F5 H5 ow5 σ5 R5 f5
        | ret r e' =>
          cases h2
          exact fun v F5 H5 ow5 σ5 H0 ow0 R5 f5 rs => km v F5 H5 ow5 σ5 H0 ow0 R5 f5 rs
  · have e0 : ds.drop i = [] := List.drop_eq_nil_of_le (by omega)
    rw [e0, forL] at h2
    cases h2
    exact .inl ⟨w2 (by omega), k F2 H2 ow2 σ2 R2 (g1.f.tr f2)⟩⟩
/-! ### while -/
def whlN (c : EvT) (x : EvS) : Nat → EvS
  | 0, _ => none
  | n + 1, env => match c env with
    | none => none
    | some p => if p.1 = true then (match x p.2 with
        | some (.nxt e') => whlN c x n e'
        | some (.cnt e') => whlN c x n e'
        | some (.brk e') => some (.nxt e')
        | some (.ret r e') => some (.ret r e')
        | none => none) else some (.nxt p.2)
def xWhl (n : Nat) (c : EvT) (x : EvS) : EvS := whlN c x n
theorem ss_while {n : Nat} {body : List Stmt} {q : Bool} {t : EvT} (hp : PassesOwn (model X.prog X.w) X.A X.env X.xe) (ht : ST E X c q t) (hb : SSs E X body x) : SS E X (.While c body [] pos) (xWhl n t x) := ⟨fun fr => (ps_while hp (ht.pt fr) (hb.ps fr)).weak fun D σ H ⟨F, ow, env, o, R, ee, k⟩ => by
  refine ⟨fun m σ2 H2 => ∃ F2 ow2 e2, Rel E fr F2 H2 ow2 e2 σ2 ∧ Ex F F2 ∧ whlN t x m e2 = some o, ⟨n, F, ow, env, R, Ex.refl _, ee⟩, ?_⟩
  rintro m σ2 H2 ⟨F2, ow2, e2, R2, f2, h2⟩
  cases m with
  | zero => cases h2
  | succ m =>
    rw [whlN] at h2
    cases hc : t e2 with
    | none => rw [hc] at h2; cases h2
    | some p =>
      obtain ⟨b, e3⟩ := p
      rw [hc] at h2
      dsimp only at h2
      refine ⟨F2, ow2, e2, b, e3, R2, hc, fun F3 H3 ow3 R3 g3 _ => ?_⟩
      have f13 := f2.tr g3.f
      have km : OutK E fr F3 D o := k.mono f13
      cases b with
      | true =>
        rw [if_pos rfl] at h2
        refine iteT ⟨fun σ4 H4 => ∃ F4 ow4 e4, Rel E fr F4 H4 ow4 e4 σ4 ∧ Ex F F4 ∧ whlN t x m e4 = some o, fun σ4 H4 h4 => ⟨m, Nat.lt_succ_self _, h4⟩, ?_⟩
        cases hx : x e3 with
        | none => rw [hx] at h2; cases h2
        | some ob =>
          rw [hx] at h2
          refine ⟨F3, ow3, e3, ob, R3, hx, ?_⟩
          cases ob with
          | nxt e' => exact fun F5 H5 ow5 σ5 R5 f5 => ⟨F5, ow5, e', R5, f13.tr f5, h2⟩
          | cnt e' => exact fun F5 H5 ow5 σ5 R5 f5 => ⟨F5, ow5, e', R5, f13.tr f5, h2⟩
          | brk e' =>
            cases h2
            exact fun F5 H5 ow5 σ5 R5 f5 => km F5 H5 ow5 σ5 R5 f5
          | ret r e' =>
            cases h2
            exact fun v F5 H5 ow5 σ5 H0 ow0 R5 f5 rs => km v F5 H5 ow5 σ5 H0 ow0 R5 f5 rs
      | false =>
        rw [if_neg Bool.false_ne_true] at h2
        cases h2
        exact iteF (km F3 H3 ow3 σ2 R3 (Ex.refl _))⟩
end
end IX

/-! text IX9 -/
set_option maxHeartbeats 1000000
namespace IX
open PySem PySem.Spec PyProof.Rows L2
variable [KC]

/-! ### list comprehensions -/
def wipeE (env : SEnv) : List Nat → SEnv
  | [] => env
  | v :: vs => (wipeE env vs).set v .und
section
variable {E : ExtK} {fr : Fra} {F H F' H' F0 H0 : Hp} {ow ow' ow0 : Ow} {env env' : SEnv} {σ : L2.St} {v : V} {r : Slot} {i : Nat}
theorem wipeE_length (env : SEnv) : ∀ vs : List Nat, (wipeE env vs).length = env.length
  | [] => rfl
  | v :: vs => by unfold wipeE; rw [List.length_set, wipeE_length env vs]
theorem wipeE_get {s : Slot} : ∀ {vs : List Nat} {j : Nat}, (wipeE env vs)[j]? = some s → s = .und ∨ (j ∉ vs ∧ env[j]? = some s)
  | [], j, h => .inr ⟨by simp, h⟩
  | v :: vs, j, h => by
    unfold wipeE at h
    rcases get_set_of h with ⟨rfl, rfl⟩ | ⟨n, h⟩
    · exact .inl rfl
    · rcases wipeE_get h with z | ⟨z, h⟩
      · exact .inl z
      · exact .inr ⟨by simp [z, n], h⟩
theorem wipe_get {j : Nat} : ∀ {vs : List Nat}, j ∉ vs → (wipe σ vs)[j]? = σ[j]?
  | [], _ => rfl
  | v :: vs, h => by
    unfold wipe
    rw [List.getElem?_set_ne (fun z => h (by simp [z]))]
    exact wipe_get (fun z => h (by simp [z]))
/-- other slots: those that are not wiped are the same -/
theorem Rel.wipes {vs : List Nat} {σ' : L2.St} (R : Rel E fr F H ow env σ) (hl : σ'.length = σ.length) (hs : ∀ j, j ∉ vs → σ'[j]? = σ[j]?) : Rel E fr F H ow (wipeE env vs) σ' where
  fh := R.fh
  f0 := R.f0
  bh := R.bh
  fb := R.fb
  dom := R.dom
  sep := R.sep
  len := by rw [wipeE_length, hl]; exact R.len
  sl := fun j s e => by
    rcases wipeE_get e with z | ⟨n, e⟩
    · exact .inl z
    · rw [hs j n]; exact R.sl j s e
  pr := fun j s e p => by
    rcases wipeE_get e with z | ⟨n, e⟩
    · subst z; cases p
    · rw [hs j n]; exact R.pr j s e p
theorem wipeE_idem {vs : List Nat} (h : wipe σ vs = wipe σ vs) : True := trivial
/-- an object of nobody's changes -/
theorem Rel.tmpUpd {p : Addr} {u : HO} (R : Rel E fr F H ow env σ) (n : ow p = none) (f : F p = none) (b : fr.B p = none) : Rel E fr F (upd H p u) ow env σ where
  fh := fun a o e => by
    have z : a ≠ p := fun z => by subst z; rw [f] at e; cases e
    rw [upd_ne z]; exact R.fh a o e
  f0 := R.f0
  bh := fun a o e => by
    have z : a ≠ p := fun z => by subst z; rw [b] at e; cases e
    rw [upd_ne z]; exact R.bh a o e
  fb := R.fb
  dom := fun a h => by
    by_cases z : a = p
    · subst z; rw [upd_same]; exact fun z => nomatch z
    · rw [upd_ne z]; exact R.dom a h
  sep := fun a i e => by
    obtain ⟨h1, h2, h3⟩ := R.sep a i e
    have z : a ≠ p := fun z => by subst z; rw [n] at e; cases e
    exact ⟨h1, h2, by rw [upd_ne z]; exact h3⟩
  len := R.len
  sl := fun i s e => by
    rcases R.sl i s e with z | ⟨v, e1, q⟩
    · exact .inl z
    · refine .inr ⟨v, e1, q.mono E (Ex.refl _) (fun _ z => z) fun a (ha : ow a = some i) => ?_⟩
      exact upd_ne (fun z => by subst z; rw [n] at ha; cases ha)
  pr := R.pr
theorem Grow.tmpUpd {p : Addr} {u : HO} (g : Grow F0 H0 ow0 F H ow) (hp : H0 p = none) : Grow F0 H0 ow0 F (upd H p u) ow where
  f := g.f
  h := fun a o h n => by
    have z : a ≠ p := fun z => by subst z; rw [hp] at h; cases h
    rw [upd_ne z]; exact g.h a o h n
  dom := fun a h => by
    have z : a ≠ p := fun z => by subst z; exact h hp
    rw [upd_ne z]; exact g.dom a h
  fz := g.fz
end
def compL (vs : List Nat) (g : PyData → SEnv → Option SEnv) (t : EvT) (ev : EvB) : List PyData → SEnv → List PyData → Option (List PyData × SEnv)
  | [], env, acc => some (acc, env)
  | d :: ds, env, acc => (g d env).bind fun e1 => (t e1).bind fun p => if p.1 = true then (ev p.2).bind fun q => if acc.length < sizeLine then compL vs g t ev ds (wipeE q.2 vs) (acc ++ [q.1]) else none
      else compL vs g t ev ds (wipeE p.2 vs) acc
def evComp (vs : List Nat) (it : EvA) (g : PyData → SEnv → Option SEnv) (t : EvT) (ev : EvB) : EvE := fun env => (it env).bind fun p => (compL vs g t ev p.1 (wipeE p.2 vs) []).map fun q => (.own false q.1, q.2)
section
variable {E : ExtK} {X : Cx} [KX X] {elt tg iter : Expr} {ifs : List Expr} {scope : Scope} {own : List (Str × Nat)} {pos spos : Pos}
structure STs (E : ExtK) (X : Cx) (ifs : List Expr) (q : Bool) (ev : EvT) : Prop where
  pt : ∀ fr, PTs X ifs (TTq E fr q ev)
def evYes : EvT := fun env => some (true, env)
theorem PTs_weak {t t' : TT} (h : PTs X ifs t) (w : ∀ σ H Q, t' σ H Q → t σ H Q) : PTs X ifs t' := ⟨fun pins s σ H Q I k => h.run pins s σ H Q I (w σ H Q k)⟩
theorem sts_nil : STs E X [] true evYes := ⟨fun fr => PTs_weak pts_nil fun σ H Q ⟨F, ow, env, b, env', R, ee, k⟩ => by
  cases ee
  exact k F H ow R Grow.refl fun _ => Ex.refl _⟩
theorem sts_one {c : Expr} {q : Bool} {ev : EvT} (h : ST E X c q ev) : STs E X [c] q ev := ⟨fun fr => pts_one (h.pt fr)⟩
theorem wipe_wipe_get {σ : L2.St} {vs : List Nat} {σ2 : L2.St} (h : wipe σ2 vs = wipe σ vs) (j : Nat) (n : j ∉ vs) : (wipe σ vs)[j]? = σ2[j]? := by
  rw [← h]; exact wipe_get n
theorem wipe_mem : ∀ {vs : List Nat} {σ : L2.St} {j : Nat}, j ∈ vs → j < σ.length → (wipe σ vs)[j]? = some none
  | [], _, _, h, _ => by simp at h
  | v :: vs, σ, j, h, hl => by
    unfold wipe
    by_cases z : v = j
    · subst z
      rw [List.getElem?_set_self (by rw [wipe_length]; exact hl)]
    · rw [List.getElem?_set_ne z]
      exact wipe_mem ((List.mem_cons.mp h).resolve_left (Ne.symm z)) hl
theorem wipe_back {σ σ4 : L2.St} {vs : List Nat} (hl : σ4.length = σ.length) (h : ∀ j, j ∉ vs → σ4[j]? = (wipe σ vs)[j]?) : wipe σ4 vs = wipe σ vs := by
  apply List.ext_getElem?
  intro j
  by_cases z : j ∈ vs
  · by_cases y : j < σ.length
    · rw [wipe_mem z y, wipe_mem z (by rw [hl]; exact y)]
    · rw [List.getElem?_eq_none (by rw [wipe_length]; omega), List.getElem?_eq_none (by rw [wipe_length]; omega)]
  · rw [wipe_get z, h j z]
theorem comp_core {fr : Fra} {vs ts : List Nat} {q : Bool} {it : EvA} {g : PyData → SEnv → Option SEnv} {t : EvT} {ev : EvB} {qt qe : Bool} {σ : L2.St} {H : Hp} {Q : VK} (hts : ∀ j ∈ ts, j ∈ vs) (h : TQ E fr false (evComp vs it g t ev) σ H Q) :
    tLc (TIv E fr q it) (TGv E fr ts g) (TTq E fr qt t) (TP E fr qe ev) vs σ H Q := by
  obtain ⟨F, ow, env, r, env', R, ee, k⟩ := h
  obtain ⟨⟨ds, e1⟩, h1, h⟩ := bind2 ee
  obtain ⟨⟨res, e2⟩, h2, h⟩ := Option.map_eq_some_iff.mp h
  cases h
  refine ⟨F, ow, env, ds, e1, R, h1, fun J F1 H1 ow1 R1 g1 _ wk D hD => ?_⟩
  have n1 : ow1 D = none := R1.free hD
  have f1 : F1 D = none := R1.fh.non hD
  have b1 : fr.B D = none := R1.bh.non hD
  have Rw : Rel E fr F1 (upd H1 D (.lst [])) ow1 (wipeE e1 vs) (wipe σ vs) := (R1.tmpUpd n1 f1 b1).wipes (wipe_length σ vs) fun j n => wipe_get n
  refine ⟨fun i m H2 => m = ds.length - i ∧ i ≤ ds.length ∧ ∃ F2 ow2 env2 acc dacc, Rel E fr F2 H2 ow2 env2 (wipe σ vs) ∧ Grow F1 H1 ow1 F2 H2 ow2 ∧ H2 D = some (.lst acc) ∧ ow2 D = none ∧ F2 D = none ∧ RpA F2 acc dacc ∧ compL vs g t ev (ds.drop i) env2 dacc = some (res, e2) ∧ (∀ j s, env2[j]? = some s → j ∈ vs → s = .und),
    ⟨ds.length, by simp, Nat.zero_le _, F1, ow1, _, [], [], Rw, Grow.tmpUpd Grow.refl hD, upd_same, n1, f1, .nil, by simpa using h2, fun j s e hj => ?_⟩, ?_⟩
  · rcases wipeE_get e with z | ⟨n, _⟩
    · exact z
    · exact absurd hj n
  rintro i m H2 ⟨rfl, hle, F2, ow2, env2, acc, dacc, R2, g2, hD2, n2, f2, r2, hc, hu⟩
  obtain ⟨w1, w2⟩ := wk i F2 H2 g2.f R2.fh
  by_cases hlt : i < ds.length
  · obtain ⟨d, hd⟩ : ∃ d, ds[i]? = some d := ⟨ds[i], by simp [hlt]⟩
    have hdrop : ds.drop i = d :: ds.drop (i + 1) := by
      rw [List.drop_eq_getElem_cons hlt]
      congr 1
      simpa [hlt] using hd
    rw [hdrop, compL] at hc
    obtain ⟨go, yl⟩ := w1 d hd
    refine .inr ⟨go, fun H3 => ∃ F3 ow3 env3 acc3 dacc3, Rel E fr F3 H3 ow3 env3 (wipe σ vs) ∧ Grow F1 H1 ow1 F3 H3 ow3 ∧ H3 D = some (.lst acc3) ∧ ow3 D = none ∧ F3 D = none ∧ RpA F3 acc3 dacc3 ∧ compL vs g t ev (ds.drop (i + 1)) env3 dacc3 = some (res, e2) ∧ (∀ j s, env3[j]? = some s → j ∈ vs → s = .und),
      fun H3 ⟨F3, ow3, env3, acc3, dacc3, h3⟩ => ⟨ds.length - (i + 1), by omega, rfl, hlt, F3, ow3, env3, acc3, dacc3, h3⟩, fun x H3 hy => ?_⟩
    obtain ⟨F3, al, rx⟩ := yl x H3 hy
    have R3 := R2.alloc al
    have g3 := al.grow R2
    obtain ⟨e3, hg', hc⟩ := bind2 hc
    obtain ⟨⟨b, e4⟩, ht', hc⟩ := bind2 hc
    refine ⟨F3, ow2, env2, d, e3, R3, rx, hg', fun F4 H4 ow4 σ4 R4 g4 ⟨n4, l4⟩ => ⟨wipe_back (l4.trans (wipe_length σ vs)) fun j nj => n4 j fun z => nj (hts j z), ?_⟩⟩
    have G4 := (g2.tr g3).tr g4
    have D4 : H4 D = some (.lst acc) := g4.h _ _ (al.h _ _ hD2) n2
    have N4 : ow4 D = none := (g4.fz D (ne_of_some (al.h _ _ hD2)) n2).2
    have E4 : F4 D = none := (g4.fz D (ne_of_some (al.h _ _ hD2)) n2).1.trans ((al.fz D (ne_of_some hD2)).trans f2)
    refine ⟨F4, ow4, e3, b, e4, R4, ht', fun F5 H5 ow5 R5 g5 _ => ?_⟩
    have D5 : H5 D = some (.lst acc) := g5.h _ _ D4 N4
    have E5 : F5 D = none := (g5.fz D (ne_of_some D4) N4).1.trans E4
    have N5 : ow5 D = none := (g5.fz D (ne_of_some D4) N4).2
    have wl : (wipe σ vs).length = σ4.length := l4.symm
    cases b with
    | true =>
      have hc : (ev e4).bind (fun q => if dacc.length < sizeLine then compL vs g t ev (ds.drop (i + 1)) (wipeE q.2 vs) (dacc ++ [q.1]) else none) = some (res, e2) := hc
      obtain ⟨⟨y, e5⟩, he', hc⟩ := bind2 hc
      have hc : (if dacc.length < sizeLine then compL vs g t ev (ds.drop (i + 1)) (wipeE e5 vs) (dacc ++ [y]) else none) = some (res, e2) := hc
      split at hc
      · rename_i hz
        refine iteT ⟨F5, ow5, e4, y, e5, R5, he', fun u F6 H6 ow6 R6 g6 _ ru => ?_⟩
        have D6 : H6 D = some (.lst acc) := g6.h _ _ D5 N5
        have E6 : F6 D = none := (g6.fz D (ne_of_some D5) N5).1.trans E5
        have N6 : ow6 D = none := (g6.fz D (ne_of_some D5) N5).2
        have g26 := ((g3.tr g4).tr g5).tr g6
        refine ⟨acc, D6, by rw [r2.length]; exact hz, F6, ow6, wipeE e5 vs, _, dacc ++ [y], ?_, (((G4.tr g5).tr g6)).tmpUpd hD, upd_same, N6, E6, (RpA.mono g26.f _ _ r2).append (.cons ru .nil), hc, ?_⟩
        · exact (R6.tmpUpd N6 E6 b1).wipes wl fun j nj => (n4 j fun z => nj (hts j z)).symm
        · intro j s e hj
          rcases wipeE_get e with z | ⟨n, _⟩
          · exact z
          · exact absurd hj n
      · cases hc
    | false =>
      have hc : compL vs g t ev (ds.drop (i + 1)) (wipeE e4 vs) dacc = some (res, e2) := hc
      refine iteF ⟨F5, ow5, wipeE e4 vs, acc, dacc, ?_, G4.tr g5, D5, N5, E5, RpA.mono ((g3.tr g4).tr g5).f _ _ r2, hc, ?_⟩
      · exact R5.wipes wl fun j nj => (n4 j fun z => nj (hts j z)).symm
      · intro j s e hj
        rcases wipeE_get e with z | ⟨n, _⟩
        · exact z
        · exact absurd hj n
  · have e0 : ds.drop i = [] := List.drop_eq_nil_of_le (by omega)
    rw [e0, compL] at hc
    cases hc
    refine .inl ⟨w2 (by omega), k (.ref D) F2 H2 ow2 ?_ (g1.tr g2) (fun z => nomatch z) ⟨rfl, (fun z => nomatch z), fun a => a = D, fun a ha => ?_, D, acc, rfl, rfl, hD2, r2⟩⟩
    · refine ⟨R2.fh, R2.f0, R2.bh, R2.fb, R2.dom, R2.sep, by rw [R2.len, wipe_length], fun j s e => ?_, fun j s e p => ?_⟩
      · by_cases z : j ∈ vs
        · exact .inl (hu j s e z)
        · rw [← wipe_get z]; exact R2.sl j s e
      · by_cases z : j ∈ vs
        · rw [hu j s e z] at p; cases p
        · rw [← wipe_get z]; exact R2.pr j s e p
    · subst ha
      refine ⟨n2, f2, b1, ne_of_some hD2, fun hn on => ?_⟩
      exact g1.dom a hn hD

theorem se_comp {vs ts : List Nat} {q qt qe : Bool} {it : EvA} {g : PyData → SEnv → Option SEnv} {t : EvT} {ev : EvB} (hc : X.calm = true) (hN : X.N.Nodup) (ok : BlkOk X.N X.env.scope scope own) (hvs : own.map (·.2) = vs) (hts : ts.all (fun j => decide (j ∈ vs)) = true) (hi : SI E X tg iter q it)
    (hg : ∀ (s : Shared) (H : Hp) (C : Addr) (cl : List (Str × Addr)) (fp : List Addr), SG E (X.blk s H scope (compEnvC scope cl C X.env) fp) tg ts g)
    (ht : ∀ (s : Shared) (H : Hp) (C : Addr) (cl : List (Str × Addr)) (fp : List Addr), STs E (X.blk s H scope (compEnvC scope cl C X.env) fp) ifs qt t)
    (he : ∀ (s : Shared) (H : Hp) (C : Addr) (cl : List (Str × Addr)) (fp : List Addr), SP E (X.blk s H scope (compEnvC scope cl C X.env) fp) elt qe ev)
    (hs : ∀ x, foldedSetIterable iter X.env x = pure x := by intro _; rfl) : SE E X (.ListComp elt [⟨tg, iter, ifs, 0⟩] scope pos) false (evComp vs it g t ev) := ⟨fun fr => by
  subst hvs
  exact (pe_lc hc hN (hi.pi fr) ok (fun s H C cl fp => (hg s H C cl fp).pg fr) (fun s H C cl fp => (ht s H C cl fp).pt fr) (fun s H C cl fp => (he s H C cl fp).pe fr) hs).weak fun σ H Q h => comp_core (fun j hj => by simpa using List.all_eq_true.mp hts j hj) h⟩
/-- name = [..], on one line -/
theorem ss_setLc {i : Nat} {y : Str} {py : Pos} {vs ts : List Nat} {q qt qe : Bool} {it : EvA} {g : PyData → SEnv → Option SEnv} {t : EvT} {ev : EvB} (hc : X.calm = true) (hN : X.N.Nodup) (hy : X.N[i]? = some y) (hyl : X.env.scope.names.lookup y = some .local)
    (hsw : swapsWith (.ListComp elt [⟨tg, iter, ifs, 0⟩] scope pos) (some (.Name y py)) spos.line X.env = pure true) (ok : BlkOk X.N X.env.scope scope own) (hvs : own.map (·.2) = vs) (hts : ts.all (fun j => decide (j ∈ vs)) = true) (hi : SI E X tg iter q it)
    (hg : ∀ (s : Shared) (H : Hp) (C : Addr) (cl : List (Str × Addr)) (fp : List Addr), SG E (X.blk s H scope (compEnvC scope cl C X.env) fp) tg ts g)
    (ht : ∀ (s : Shared) (H : Hp) (C : Addr) (cl : List (Str × Addr)) (fp : List Addr), STs E (X.blk s H scope (compEnvC scope cl C X.env) fp) ifs qt t)
    (he : ∀ (s : Shared) (H : Hp) (C : Addr) (cl : List (Str × Addr)) (fp : List Addr), SP E (X.blk s H scope (compEnvC scope cl C X.env) fp) elt qe ev)
    (hs : ∀ x, foldedSetIterable iter X.env x = pure x := by intro _; rfl) : SS E X (.Assign [.Name y py] (.ListComp elt [⟨tg, iter, ifs, 0⟩] scope pos) spos) (xSet i (evComp vs it g t ev)) := ⟨fun fr => by
  subst hvs
  refine (ps_setLc hc hN hy hyl hsw (hi.pi fr) ok (fun s H C cl fp => (hg s H C cl fp).pg fr) (fun s H C cl fp => (ht s H C cl fp).pt fr) (fun s H C cl fp => (he s H C cl fp).pe fr) hs).weak fun D σ H ⟨F, ow, env, o, R, ee, k⟩ => ?_
  obtain ⟨⟨r, e1⟩, h1, h⟩ := bind2 ee
  obtain ⟨e2, h2, h⟩ := Option.map_eq_some_iff.mp h
  cases h
  obtain ⟨s, h3, h4, rfl⟩ := stS_some h2
  refine comp_core (E := E) (fr := fr) (it := it) (g := g) (t := t) (ev := ev) (fun j hj => by simpa using List.all_eq_true.mp hts j hj) ⟨F, ow, env, r, e1, R, h1, fun v F' H' ow' R' g hq rs => ?_⟩
  obtain ⟨ow2, R2⟩ := R'.store h3 h4 rs
  exact k F' H' ow2 _ R2 g.f⟩
end
end IX

/-! text IX10 -/
set_option maxHeartbeats 1000000
namespace IX
open PySem PySem.Spec PyProof.Rows L2
variable [KC]

/-! ### defs: what they promise -/
abbrev FSem := List Slot → Option (Slot × List Slot)
def Slot.given : Slot → Bool
  | .und => false
  | .pur _ => true
  | .own p _ => p
  | .ext p _ _ => p
structure Ret (E : ExtK) (F H B : Hp) (vs : List V) (outs : List Slot) (F' H' : Hp) (ow' : Ow) (v : V) (r : Slot) : Prop where
  fh : Ex F' H'
  f0 : Ex F F'
  bh : Ex B H'
  fb : ∀ a o, B a = some o → F' a = F a
  dom : ∀ a, H a ≠ none → H' a ≠ none
  sep : ∀ a i, ow' a = some i → F' a = none ∧ B a = none ∧ H' a ≠ none
  sl : ∀ (i : Nat) (s : Slot), outs[i]? = some s → s.par = true → ∃ v, vs[i]? = some v ∧ Sl E F' H' (fun a => ow' a = some i) v s
  np : r.par = false
  nu : r ≠ .und
  res : ∃ S : Addr → Prop, (∀ a, S a → ow' a = none ∧ F' a = none ∧ B a = none ∧ H' a ≠ none) ∧ Sl E F' H' S v r
def spI (E : ExtK) (f : FSem) (n : Nat) : Sp := fun vs H Q _ => vs.length = n ∧ ∃ (F B : Hp) (ow : Ow) (args : List Slot) (r : Slot) (outs : List Slot), Ex F H ∧ Ex B H ∧ (∀ a i, ow a = some i → F a = none ∧ B a = none ∧ H a ≠ none) ∧ args.length = n ∧
  (∀ (i : Nat) (s : Slot), args[i]? = some s → s.given = true ∧ ∃ v, vs[i]? = some v ∧ Sl E F H (fun a => ow a = some i) v s) ∧ f args = some (r, outs) ∧
  ∀ v F' H' ow', Ret E F H B vs outs F' H' ow' v r → Q v H'
theorem spI_len {E : ExtK} {f : FSem} {n : Nat} {ps : List Str} (h : ps.length = n) : ∀ vs H Q X, spI E f n vs H Q X → vs.length = ps.length := fun vs H Q X z => z.1.trans h.symm
/-- what stands in the parameters at the end: what was handed in by reference must stand there still -/
def outsOf : List Slot → SEnv → Option (List Slot)
  | [], _ => some []
  | _ :: _, [] => none
  | a :: as, e :: es => if a.par = true then (if e.par = true then (outsOf as es).map (e :: ·) else none) else (outsOf as es).map (.und :: ·)
theorem outsOf_get : ∀ {as : List Slot} {env : SEnv} {outs : List Slot}, outsOf as env = some outs → ∀ {i : Nat} {s : Slot}, outs[i]? = some s → s.par = true → env[i]? = some s
  | [], _, _, h, i, s, e, _ => by cases h; simp at e
  | _ :: _, [], _, h, _, _, _, _ => by cases h
  | a :: as, e :: es, outs, h, i, s, g, p => by
    unfold outsOf at h
    split at h
    · split at h
      · obtain ⟨os, h1, h2⟩ := Option.map_eq_some_iff.mp h
        subst h2
        cases i with
        | zero => simpa using g
        | succ i =>
          have := outsOf_get h1 (i := i) (s := s) (by simpa using g) p
          simpa using this
      · cases h
    · obtain ⟨os, h1, h2⟩ := Option.map_eq_some_iff.mp h
      subst h2
      cases i with
      | zero => simp at g; subst g; cases p
      | succ i =>
        have := outsOf_get h1 (i := i) (s := s) (by simpa using g) p
        simpa using this
/-- a body as a def: N names, the parameters first -/
def runDef (N : Nat) (x : EvS) : FSem := fun args => match x (args ++ List.replicate (N - args.length) .und) with
  | some (.ret r e) => (outsOf args e).map fun os => (r, os)
  | some (.nxt e) => (outsOf args e).map fun os => (.pur .none, os)
  | _ => none
section
variable {P : Program} {w : World} {K : PySem.W.Frag} {mg : Str → Option Value} {base : Heap} {E : ExtK}
theorem def_ok {x qual : Str} {params : Arguments} {body : List Stmt} {scope : Scope} {dvs : List V} {kws : List (Str × V)} {f : Addr} {fd : FuncData} {N ps : List Str} {k n : Nat} {xb : EvS} (F : FunD K x qual params body scope dvs kws f fd) (S : FnScope N ps scope) (hn : ps.length = n)
    (hb : ∀ (cdv : Value) (A : Around) (outer : List Env) (s : Shared) (H : Hp) (XE : XK), Room k (A.deeper (envOfC qual scope s.heap.objs.size f cdv)) → SSs E (cxOf CX0 P w K mg base N qual scope f cdv A outer s H XE).nox body xb) :
    FnOk P w K mg base CX0 (k + 1) f fd ps (spI E (runDef N.length xb) n) := by
  refine F.ok S (spI_len hn) fun cdv A outer s H vs Q XE hr h => ?_
  obtain ⟨hl, F0, B, ow, args, r, outs, fh, bh, sep, la, ha, hf, k⟩ := h
  let fr : Fra := ⟨F0, H, B, vs⟩
  refine ⟨TSv E fr xb, ((hb cdv A outer s H XE hr).ps fr).nox, ?_⟩
  have nl : n ≤ N.length := by have := congrArg List.length S.pre; rw [List.length_take] at this; omega
  have R : Rel E fr F0 H ow (args ++ List.replicate (N.length - args.length) .und) (L2.start N vs) := by
    refine ⟨fh, Ex.refl _, bh, fun _ _ _ => rfl, fun _ h => h, sep, ?_, fun i s e => ?_, fun i s e p => ?_⟩
    · unfold L2.start
      rw [List.length_append, List.length_append, List.length_replicate, List.length_replicate, List.length_map]
      omega
    · by_cases hi : i < args.length
      · rw [List.getElem?_append_left hi] at e
        obtain ⟨_, v, hv, hs⟩ := ha i s e
        refine .inr ⟨v, ?_, hs⟩
        unfold L2.start
        rw [List.getElem?_append_left (by rw [List.length_map]; omega), List.getElem?_map, hv]
        rfl
      · rw [List.getElem?_append_right (by omega), List.getElem?_replicate] at e
        split at e
        · cases e; exact .inl rfl
        · cases e
    · by_cases hi : i < args.length
      · rw [List.getElem?_append_left hi] at e
        obtain ⟨_, v, hv, hs⟩ := ha i s e
        refine ⟨v, hv, ?_⟩
        unfold L2.start
        rw [List.getElem?_append_left (by rw [List.length_map]; omega), List.getElem?_map, hv]
        rfl
      · rw [List.getElem?_append_right (by omega), List.getElem?_replicate] at e
        split at e
        · cases e; cases p
        · cases e
  have fin : ∀ {F' H' ow' σ' e' v r}, Rel E fr F' H' ow' e' σ' → Ex F0 F' → outsOf args e' = some outs → r.par = false → r ≠ .und → (∃ S : Addr → Prop, (∀ a, S a → ow' a = none ∧ F' a = none ∧ B a = none ∧ H' a ≠ none) ∧ Sl E F' H' S v r) → Ret E F0 H B vs outs F' H' ow' v r := fun {F' H' ow' σ' e' v r} R' f ho np nu rs =>
    ⟨R'.fh, f, R'.bh, R'.fb, R'.dom, R'.sep, fun i s e p => by
      have ee := outsOf_get ho e p
      obtain ⟨v, h1, h2⟩ := R'.pr i s ee p
      rcases R'.sl i s ee with z | ⟨v', h3, h4⟩
      · subst z; cases p
      · rw [h2] at h3; cases h3; exact ⟨v, h1, h4⟩, np, nu, rs⟩
  unfold runDef at hf
  split at hf
  · rename_i r' e' hx
    obtain ⟨os, h1, h2⟩ := Option.map_eq_some_iff.mp hf
    cases h2
    exact ⟨F0, ow, _, _, R, hx, fun v F' H' ow' σ' H0 ow0 R' f rs => k v F' H' ow' (fin R' f h1 rs.1 rs.2.1 (by
      obtain ⟨_, _, S, hS, hs⟩ := rs
      exact ⟨S, fun a sa => ⟨(hS a sa).1, (hS a sa).2.1, (hS a sa).2.2.1, (hS a sa).2.2.2.1⟩, hs⟩))⟩
  · rename_i e' hx
    obtain ⟨os, h1, h2⟩ := Option.map_eq_some_iff.mp hf
    cases h2
    exact ⟨F0, ow, _, _, R, hx, fun F' H' ow' σ' R' f => k .non F' H' ow' (fin R' f h1 rfl (fun z => nomatch z) ⟨fun _ => False, fun _ z => z.elim, .non⟩)⟩
  · cases hf
end
/-! ### calls -/
/-- an argument: data, or by reference -/
inductive Arg where
  | val (d : PyData)
  | ref (j : Nat)
inductive ArgsOk (F : Hp) (σ : L2.St) : List V → List Arg → Prop
  | nil : ArgsOk F σ [] []
  | val {v : V} {d : PyData} {vs : List V} {as : List Arg} : Rp F v d → ArgsOk F σ vs as → ArgsOk F σ (v :: vs) (.val d :: as)
  | ref {v : V} {j : Nat} {vs : List V} {as : List Arg} : σ[j]? = some (some v) → ArgsOk F σ vs as → ArgsOk F σ (v :: vs) (.ref j :: as)
abbrev EvR := SEnv → Option (List Arg × SEnv)
def TAr (E : ExtK) (fr : Fra) (q : Bool) (ev : EvR) : TA := fun σ H Q => ∃ F ow env as env', Rel E fr F H ow env σ ∧ ev env = some (as, env') ∧
  ∀ vs F' H' ow', Rel E fr F' H' ow' env' σ → Grow F H ow F' H' ow' → (q = true → Ex H H') → ArgsOk F' σ vs as → Q vs H'
/-- br: whether something is handed in by reference -/
structure SAr (E : ExtK) (X : Cx) (es : List Expr) (q br : Bool) (ev : EvR) : Prop where
  pa : ∀ fr, PA X es (TAr E fr q ev)
  nb : br = false → ∀ env as env', ev env = some (as, env') → ∀ j, Arg.ref j ∉ as
def arN : EvR := fun env => some ([], env)
def arV (ev : EvB) (t : EvR) : EvR := fun env => (ev env).bind fun p => (t p.2).map fun q => (.val p.1 :: q.1, q.2)
def Slot.isObj : Slot → Bool
  | .own _ _ => true
  | .ext _ _ _ => true
  | _ => false
def arR (i : Nat) (t : EvR) : EvR := fun env => match env[i]? with
  | some s => if s.isObj = true then (t env).map fun q => (.ref i :: q.1, q.2) else none
  | none => none
section
variable {E : ExtK} {X : Cx} [KX X] {e : Expr} {es : List Expr} {pos : Pos} {F F' H H' : Hp} {σ : L2.St} {vs : List V} {as : List Arg}
theorem ArgsOk.mono (f : Ex F F') : ∀ {vs as}, ArgsOk F σ vs as → ArgsOk F' σ vs as
  | _, _, .nil => .nil
  | _, _, .val r t => .val (Rp.mono f _ _ r) (ArgsOk.mono f t)
  | _, _, .ref r t => .ref r (ArgsOk.mono f t)
theorem sar_nil : SAr E X [] true false arN := ⟨fun fr => pa_nil.weak fun σ H Q ⟨F, ow, env, as, env', R, ee, k⟩ => by
  cases ee
  exact k [] F H ow R Grow.refl (fun _ => Ex.refl _) .nil, fun _ env as env' h j => by cases h; simp⟩
theorem sar_val {q q' br : Bool} {ev : EvB} {t : EvR} (h : SP E X e q ev) (ht : SAr E X es q' br t) (hs : starEach (e :: es) X.env = (false, eval e X.env) :: starEach es X.env := by rfl) : SAr E X (e :: es) (q && q') br (arV ev t) := ⟨fun fr => (pa_cons (h.pe fr) (ht.pa fr) hs).weak fun σ H Q ⟨F, ow, env, as, env', R, ee, k⟩ => by
  obtain ⟨⟨d, e1⟩, h1, h⟩ := bind2 ee
  obtain ⟨⟨as', e2⟩, h2, h⟩ := Option.map_eq_some_iff.mp h
  cases h
  refine ⟨F, ow, env, d, e1, R, h1, fun v F1 H1 ow1 R1 g1 q1 r1 => ⟨F1, ow1, e1, _, _, R1, h2, fun vs F2 H2 ow2 R2 g2 q2 r2 => ?_⟩⟩
  refine k _ F2 H2 ow2 R2 (g1.tr g2) (fun z => ?_) (.val (Rp.mono g2.f _ _ r1) r2)
  obtain ⟨z1, z2⟩ := Bool.and_eq_true_iff.mp z
  exact (q1 z1).tr (q2 z2), fun z env as env' hh j => by
  obtain ⟨⟨d, e1⟩, h1, h⟩ := bind2 hh
  obtain ⟨⟨as', e2⟩, h2, h⟩ := Option.map_eq_some_iff.mp h
  cases h
  have := ht.nb z _ _ _ h2 j
  simp [this]⟩
theorem sar_ref {q br : Bool} {x : Str} {i : Nat} {t : EvR} (h : PE X (.Name x pos) (tVar i)) (ht : SAr E X es q br t) (hs : starEach (.Name x pos :: es) X.env = (false, eval (.Name x pos) X.env) :: starEach es X.env := by rfl) : SAr E X (.Name x pos :: es) q true (arR i t) := ⟨fun fr => (pa_cons h (ht.pa fr) hs).weak fun σ H Q ⟨F, ow, env, as, env', R, ee, k⟩ => by
  unfold arR at ee
  split at ee
  · rename_i s h0
    split at ee
    · rename_i ob
      obtain ⟨⟨as', e2⟩, h2, h⟩ := Option.map_eq_some_iff.mp ee
      cases h
      rcases R.sl _ _ h0 with z | ⟨v, hv, _⟩
      · subst z; cases ob
      · exact ⟨v, hv, F, ow, env, _, _, R, h2, fun vs F2 H2 ow2 R2 g2 q2 r2 => k _ F2 H2 ow2 R2 g2 q2 (.ref hv r2)⟩
    · cases ee
  · (cases ee), fun z => nomatch z⟩
def refIx : List Arg → Nat → Option Nat
  | [], _ => none
  | .ref j' :: as, j => if j' = j then some 0 else (refIx as j).map (· + 1)
  | .val _ :: as, j => (refIx as j).map (· + 1)
def refAt (as : List Arg) (i : Nat) : Option Nat := match as[i]? with
  | some (.ref j) => some j
  | _ => none
theorem refIx_at : ∀ {as : List Arg} {j i : Nat}, refIx as j = some i → as[i]? = some (.ref j)
  | [], _, _, h => by cases h
  | .ref j' :: as, j, i, h => by
    unfold refIx at h
    split at h
    · rename_i z; cases h; rw [z]; rfl
    · obtain ⟨i', h1, h2⟩ := Option.map_eq_some_iff.mp h
      subst h2
      simpa using refIx_at h1
  | .val _ :: as, j, i, h => by
    unfold refIx at h
    obtain ⟨i', h1, h2⟩ := Option.map_eq_some_iff.mp h
    subst h2
    simpa using refIx_at h1
/-- no name is handed in twice -/
def refsOk : List Arg → Bool
  | [] => true
  | .ref j :: as => (refIx as j).isNone && refsOk as
  | .val _ :: as => refsOk as
theorem refIx_of : ∀ {as : List Arg} {j i : Nat}, refsOk as = true → as[i]? = some (.ref j) → refIx as j = some i
  | [], _, _, _, h => by simp at h
  | .ref j' :: as, j, i, hn, h => by
    unfold refsOk at hn
    obtain ⟨h1, h2⟩ := Bool.and_eq_true_iff.mp hn
    cases i with
    | zero => simp at h; subst h; unfold refIx; rw [if_pos rfl]
    | succ i =>
      have := refIx_of h2 (i := i) (j := j) (by simpa using h)
      unfold refIx
      have ne : j' ≠ j := fun z => by subst z; rw [this] at h1; cases h1
      rw [if_neg ne, this]
      rfl
  | .val _ :: as, j, i, hn, h => by
    unfold refsOk at hn
    cases i with
    | zero => simp at h
    | succ i =>
      have := refIx_of hn (i := i) (j := j) (by simpa using h)
      unfold refIx
      rw [this]
      rfl
def argS (env : SEnv) : Arg → Option Slot
  | .val d => some (.pur d)
  | .ref j => match env[j]? with
    | some (.own _ ds) => some (.own true ds)
    | some (.ext _ t g) => some (.ext true t g)
    | _ => none
def argSs (env : SEnv) : List Arg → Option (List Slot)
  | [] => some []
  | a :: as => (argS env a).bind fun s => (argSs env as).map (s :: ·)
theorem argSs_get {env : SEnv} : ∀ {as : List Arg} {ss : List Slot}, argSs env as = some ss → as.length = ss.length ∧ ∀ {i : Nat} {s : Slot}, ss[i]? = some s → ∃ a, as[i]? = some a ∧ argS env a = some s
  | [], _, h => by cases h; exact ⟨rfl, fun e => by simp at e⟩
  | a :: as, ss, h => by
    obtain ⟨s, h1, h⟩ := bind2 h
    obtain ⟨ss', h2, h⟩ := Option.map_eq_some_iff.mp h
    subst h
    obtain ⟨l, g⟩ := argSs_get h2
    refine ⟨by simp [l], fun {i s'} e => ?_⟩
    cases i with
    | zero => simp at e; subst e; exact ⟨a, rfl, h1⟩
    | succ i =>
      obtain ⟨a', g1, g2⟩ := g (i := i) (s := s') (by simpa using e)
      exact ⟨a', by simpa using g1, g2⟩
/-- what was handed in by reference stands again in its name -/
def backS : List Arg → List Slot → SEnv → Option SEnv
  | [], _, env => some env
  | .val _ :: as, _ :: os, env => backS as os env
  | .ref j :: as, o :: os, env => match env[j]?, o with
    | some (.own p _), .own true ds => backS as os (env.set j (.own p ds))
    | some (.ext p _ _), .ext true t g => backS as os (env.set j (.ext p t g))
    | some (.own p _), .ext true t g => backS as os (env.set j (.ext p t g))
    | some (.ext p _ _), .own true ds => backS as os (env.set j (.own p ds))
    | _, _ => none
  | _ :: _, [], _ => none
/-- o with the mark p -/
def Slot.mark (p : Bool) : Slot → Slot
  | .own _ ds => .own p ds
  | .ext _ t g => .ext p t g
  | s => s
theorem backS_len : ∀ {as : List Arg} {os : List Slot} {env env' : SEnv}, backS as os env = some env' → env'.length = env.length
  | [], _, _, _, h => by cases h; rfl
  | .val _ :: as, _ :: os, env, env', h => backS_len (as := as) (os := os) h
  | .val _ :: as, [], _, _, h => by cases h
  | .ref _ :: as, [], _, _, h => by cases h
  | .ref j :: as, o :: os, env, env', h => by
    unfold backS at h
    split at h <;> first | (cases h; done) | (rw [backS_len h, List.length_set])
theorem backS_get : ∀ {as : List Arg} {os : List Slot} {env env' : SEnv}, refsOk as = true → backS as os env = some env' → ∀ j, (refIx as j = none → env'[j]? = env[j]?) ∧ ∀ i, refIx as j = some i → ∃ s o, env[j]? = some s ∧ s.isObj = true ∧ os[i]? = some o ∧ o.par = true ∧ o.isObj = true ∧ env'[j]? = some (o.mark s.par)
  | [], _, _, _, _, h, j => by cases h; exact ⟨fun _ => rfl, fun i z => by cases z⟩
  | .val d :: as, o :: os, env, env', hn, h, j => by
    obtain ⟨g1, g2⟩ := backS_get (as := as) (os := os) hn h j
    refine ⟨fun z => g1 ?_, fun i z => ?_⟩
    · unfold refIx at z; simpa using z
    · unfold refIx at z
      obtain ⟨i', z1, z2⟩ := Option.map_eq_some_iff.mp z
      subst z2
      obtain ⟨s, o, q1, q2, q3, q4⟩ := g2 i' z1
      exact ⟨s, o, q1, q2, by simpa using q3, q4⟩
  | .val _ :: as, [], _, _, _, h, _ => by cases h
  | .ref _ :: as, [], _, _, _, h, _ => by cases h
  | .ref j' :: as, o :: os, env, env', hn, h, j => by
    unfold refsOk at hn
    obtain ⟨n1, n2⟩ := Bool.and_eq_true_iff.mp hn
    have key : ∃ s, env[j']? = some s ∧ s.isObj = true ∧ o.par = true ∧ o.isObj = true ∧ backS as os (env.set j' (o.mark s.par)) = some env' := by
      unfold backS at h
      split at h
      · rename_i p ds ds' e1; exact ⟨_, e1, rfl, rfl, rfl, h⟩
      · rename_i p t g t' g' e1; exact ⟨_, e1, rfl, rfl, rfl, h⟩
      · rename_i p ds t g e1; exact ⟨_, e1, rfl, rfl, rfl, h⟩
      · rename_i p t g ds' e1; exact ⟨_, e1, rfl, rfl, rfl, h⟩
      · cases h
    obtain ⟨s, h1, h2, h3, h4, h5⟩ := key
    obtain ⟨g1, g2⟩ := backS_get n2 h5 j
    by_cases z : j' = j
    · subst z
      have n1' : refIx as j' = none := by simpa using n1
      refine ⟨fun y => ?_, fun i y => ?_⟩
      · unfold refIx at y; rw [if_pos rfl] at y; cases y
      · unfold refIx at y
        rw [if_pos rfl] at y
        cases y
        refine ⟨s, o, h1, h2, rfl, h3, h4, ?_⟩
        rw [g1 n1', set_get_some h1]
    · refine ⟨fun y => ?_, fun i y => ?_⟩
      · unfold refIx at y
        rw [if_neg z] at y
        rw [g1 (by simpa using y), List.getElem?_set_ne z]
      · unfold refIx at y
        rw [if_neg z] at y
        obtain ⟨i', z1, z2⟩ := Option.map_eq_some_iff.mp y
        subst z2
        obtain ⟨s', o', q1, q2, q3, q4, q5, q6⟩ := g2 i' z1
        rw [List.getElem?_set_ne z] at q1
        exact ⟨s', o', q1, q2, by simpa using q3, q4, q5, q6⟩
def evCall (f : FSem) (a : EvR) : EvE := fun env => (a env).bind fun p => if refsOk p.1 = true then (argSs p.2 p.1).bind fun ss => (f ss).bind fun q => (backS p.1 q.2 p.2).map fun e => (q.1, e) else none
theorem Sl.mark_iff {F H : Hp} {S : Addr → Prop} {v : V} {p : Bool} : ∀ {s : Slot}, Sl E F H S v (s.mark p) ↔ Sl E F H S v s
  | .und => Iff.rfl
  | .pur _ => Iff.rfl
  | .own _ _ => Iff.rfl
  | .ext _ _ _ => Iff.rfl
theorem mark_par {p : Bool} : ∀ {s : Slot}, s.isObj = true → (s.mark p).par = p
  | .own _ _, _ => rfl
  | .ext _ _ _, _ => rfl
  | .und, h => by cases h
  | .pur _, h => by cases h
theorem mark_given : ∀ {s : Slot}, s.isObj = true → (s.mark true).given = true
  | .own _ _, _ => rfl
  | .ext _ _ _, _ => rfl
  | .und, h => by cases h
  | .pur _, h => by cases h
theorem argS_ref {env : SEnv} {j : Nat} {s : Slot} (h : argS env (.ref j) = some s) : ∃ s0, env[j]? = some s0 ∧ s0.isObj = true ∧ s = s0.mark true := by
  have h : (match env[j]? with
    | some (.own _ ds) => some (.own true ds)
    | some (.ext _ t g) => some (.ext true t g)
    | _ => none) = some s := h
  split at h
  · rename_i p ds h0; cases h; exact ⟨_, h0, rfl, rfl⟩
  · rename_i p t g h0; cases h; exact ⟨_, h0, rfl, rfl⟩
  · cases h
theorem ArgsOk.get : ∀ {vs : List V} {as : List Arg}, ArgsOk F σ vs as → vs.length = as.length ∧ ∀ {i : Nat} {a : Arg}, as[i]? = some a → ∃ v, vs[i]? = some v ∧ (match a with | .val d => Rp F v d | .ref j => σ[j]? = some (some v))
  | _, _, .nil => ⟨rfl, fun e => by simp at e⟩
  | _, _, .val r t => by
    obtain ⟨l, g⟩ := t.get
    refine ⟨by simp [l], fun {i a} e => ?_⟩
    cases i with
    | zero => simp at e; subst e; exact ⟨_, rfl, r⟩
    | succ i =>
      obtain ⟨v, g1, g2⟩ := g (i := i) (a := a) (by simpa using e)
      exact ⟨v, by simpa using g1, g2⟩
  | _, _, .ref r t => by
    obtain ⟨l, g⟩ := t.get
    refine ⟨by simp [l], fun {i a} e => ?_⟩
    cases i with
    | zero => simp at e; subst e; exact ⟨_, rfl, r⟩
    | succ i =>
      obtain ⟨v, g1, g2⟩ := g (i := i) (a := a) (by simpa using e)
      exact ⟨v, by simpa using g1, g2⟩
/-- THE CALL: from the arguments' end to the whole's -/
theorem call_core {fr : Fra} {F0 H0 : Hp} {ow0 ow : Ow} {env env' : SEnv} {f : FSem} {n : Nat} {ss outs : List Slot} {r : Slot} {q br : Bool} {Q : VK} {XE : XK} (R : Rel E fr F H ow env σ) (g : Grow F0 H0 ow0 F H ow) (hq : q = true → Ex H0 H)
    (ha : ArgsOk F σ vs as) (hn : as.length = n) (ok : refsOk as = true) (hs : argSs env as = some ss) (hf : f ss = some (r, outs)) (hb : backS as outs env = some env') (nb : br = false → ∀ j, Arg.ref j ∉ as)
    (k : ∀ v F' H' ow', Rel E fr F' H' ow' env' σ → Grow F0 H0 ow0 F' H' ow' → ((q && !br) = true → Ex H0 H') → Res E fr H0 ow0 F' H' ow' v r → Q v H') : spI E f n vs H Q XE := by
  obtain ⟨lv, gv⟩ := ha.get
  obtain ⟨ls, gs⟩ := argSs_get hs
  let owc : Ow := fun a => (ow a).bind (refIx as)
  let B : Hp := fun a => if owc a = none then H a else none
  have owc_some : ∀ {a i}, owc a = some i → ∃ j, ow a = some j ∧ refIx as j = some i := fun {a i} e => bind2 e
  have B_pos : ∀ {a}, owc a = none → B a = H a := fun {a} e => if_pos e
  have B_neg : ∀ {a i}, owc a = some i → B a = none := fun {a i} e => if_neg (by rw [e]; exact fun z => nomatch z)
  have B_some : ∀ {a o}, B a = some o → owc a = none ∧ H a = some o := fun {a o} e => by
    by_cases z : owc a = none
    · exact ⟨z, by rw [← B_pos z]; exact e⟩
    · have : B a = none := if_neg z
      rw [this] at e; cases e
  have owc_of : ∀ {a}, ow a = none → owc a = none := fun {a} e => by show (ow a).bind _ = none; rw [e]; rfl
  refine ⟨by rw [lv, hn], F, B, owc, ss, r, outs, R.fh, fun a o e => (B_some e).2, fun a i e => ?_, by rw [← ls, hn], fun i s e => ?_, hf, fun v F2 H2 ow2 T => ?_⟩
  · obtain ⟨j, h1, _⟩ := owc_some e
    obtain ⟨p1, p2, p3⟩ := R.sep a j h1
    exact ⟨p1, B_neg e, p3⟩
  · obtain ⟨a, h1, h2⟩ := gs e
    obtain ⟨v, h3, h4⟩ := gv h1
    cases a with
    | val d => cases h2; exact ⟨rfl, v, h3, h4⟩
    | ref j =>
      have ix : refIx as j = some i := refIx_of ok h1
      have sub : ∀ a, ow a = some j → owc a = some i := fun a e => by show (ow a).bind (refIx as) = some i; rw [e]; exact ix
      obtain ⟨s0, h0, ob, rfl⟩ := argS_ref h2
      rcases R.sl _ _ h0 with z | ⟨v', h5, hs'⟩
      · subst z; cases ob
      · have h4 : σ[j]? = some (some v) := h4
        rw [h4] at h5; cases h5
        refine ⟨mark_given ob, v, h3, ?_⟩
        exact (Sl.mark_iff.mpr hs').mono E (Ex.refl _) sub fun _ _ => rfl
  · -- the caller's owners behind the call
    let ow3 : Ow := fun a => match ow2 a with
      | some i => refAt as i
      | none => match ow a with
        | some j => if refIx as j = none then some j else none
        | none => none
    have ow3_in : ∀ {a i j}, ow2 a = some i → as[i]? = some (.ref j) → ow3 a = some j := fun {a i j} e1 e2 => by
      show (match ow2 a with | some i => refAt as i | none => _) = some j
      rw [e1]
      show refAt as i = some j
      unfold refAt; rw [e2]
    have noB : ∀ {a i}, ow2 a = some i → B a = none := fun {a i} e => (T.sep a i e).2.1
    have ow2_none : ∀ {a}, owc a = none → H a ≠ none → ow2 a = none := fun {a} e1 e2 => by
      cases e : ow2 a with
      | none => rfl
      | some i =>
        have := noB e
        rw [B_pos e1] at this
        exact absurd this e2
    have ow3_cases : ∀ {a j}, ow3 a = some j → (∃ i, ow2 a = some i ∧ as[i]? = some (.ref j)) ∨ (ow2 a = none ∧ ow a = some j ∧ refIx as j = none) := fun {a j} e => by
      have e : (match ow2 a with
        | some i => refAt as i
        | none => match ow a with
          | some j => if refIx as j = none then some j else none
          | none => none) = some j := e
      cases e2 : ow2 a with
      | some i =>
        rw [e2] at e
        refine .inl ⟨i, rfl, ?_⟩
        have e : refAt as i = some j := e
        unfold refAt at e
        split at e
        · rename_i j' h; cases e; exact h
        · cases e
      | none =>
        rw [e2] at e
        dsimp only at e
        cases e3 : ow a with
        | none => rw [e3] at e; cases e
        | some j' =>
          rw [e3] at e
          dsimp only at e
          split at e
          · rename_i z; cases e; exact .inr ⟨rfl, rfl, z⟩
          · cases e
    have keepH : ∀ {a o}, H a = some o → owc a = none → H2 a = some o := fun {a o} e n => T.bh a o (by rw [B_pos n]; exact e)
    have keepF : ∀ {a}, H a ≠ none → owc a = none → F2 a = F a := fun {a} e n => by
      obtain ⟨o, ho⟩ := some_of_ne e
      exact T.fb a o (by rw [B_pos n]; exact ho)
    have frB : ∀ {a o}, fr.B a = some o → H a = some o ∧ owc a = none := fun {a o} e => by
      refine ⟨R.bh a o e, owc_of ?_⟩
      cases e2 : ow a with
      | none => rfl
      | some j => have := (R.sep a j e2).2.1; rw [e] at this; cases this
    have frB_none : ∀ {a}, B a = none → fr.B a = none := fun {a} e => by
      cases e2 : fr.B a with
      | none => rfl
      | some o =>
        obtain ⟨h1, h2⟩ := frB e2
        rw [B_pos h2, h1] at e; cases e
    have owc_ref : ∀ {a j}, ow a = some j → refIx as j = none → owc a = none := fun {a j} e1 e2 => by show (ow a).bind (refIx as) = none; rw [e1]; exact e2
    have R3 : Rel E fr F2 H2 ow3 env' σ := by
      refine ⟨T.fh, R.f0.tr T.f0, fun a o e => keepH (frB e).1 (frB e).2, fun a o e => ?_, fun a h => T.dom a (R.dom a h), fun a j e => ?_, by rw [backS_len hb]; exact R.len, fun j s e => ?_, fun j s e p => ?_⟩
      · rw [keepF (ne_of_some (frB e).1) (frB e).2]; exact R.fb a o e
      · rcases ow3_cases e with ⟨i, h1, h2⟩ | ⟨h1, h2, h3⟩
        · obtain ⟨p1, p2, p3⟩ := T.sep a i h1
          exact ⟨p1, frB_none p2, p3⟩
        · obtain ⟨p1, p2, p3⟩ := R.sep a j h2
          have n := owc_ref h2 h3
          exact ⟨(keepF p3 n).trans p1, p2, T.dom a p3⟩
      · obtain ⟨b1, b2⟩ := backS_get ok hb j
        cases ix : refIx as j with
        | none =>
          rw [b1 ix] at e
          rcases R.sl j s e with z | ⟨v', h1, h2⟩
          · exact .inl z
          · refine .inr ⟨v', h1, h2.mono E T.f0 (fun a (ha : ow a = some j) => ?_) fun a (ha : ow a = some j) => ?_⟩
            · have n := owc_ref ha ix
              show (match ow2 a with | some i => refAt as i | none => _) = some j
              rw [ow2_none n (R.sep a j ha).2.2]
              show (match ow a with | some j => if refIx as j = none then some j else none | none => none) = some j
              rw [ha]
              exact if_pos ix
            · obtain ⟨o, ho⟩ := some_of_ne (R.sep a j ha).2.2
              rw [ho]
              exact keepH ho (owc_ref ha ix)
        | some i =>
          obtain ⟨s0, o, q1, q2, q3, q4, q5, q6⟩ := b2 i ix
          rw [q6] at e
          cases e
          have ai := refIx_at ix
          obtain ⟨v', hv', hsl⟩ := T.sl i o q3 q4
          obtain ⟨v2, h3, h4⟩ := gv ai
          rw [hv'] at h3
          cases h3
          refine .inr ⟨v', h4, (Sl.mark_iff.mpr hsl).mono E (Ex.refl _) (fun a (ha : ow2 a = some i) => ow3_in ha ai) fun _ _ => rfl⟩
      · obtain ⟨b1, b2⟩ := backS_get ok hb j
        cases ix : refIx as j with
        | none => rw [b1 ix] at e; exact R.pr j s e p
        | some i =>
          obtain ⟨s0, o, q1, q2, q3, q4, q5, q6⟩ := b2 i ix
          rw [q6] at e
          cases e
          rw [mark_par q5] at p
          exact R.pr j s0 q1 p
    have g3 : Grow F H ow F2 H2 ow3 := by
      refine ⟨T.f0, fun a o e n => keepH e (owc_of n), fun a h => T.dom a h, fun a h n => ⟨keepF h (owc_of n), ?_⟩⟩
      cases e : ow3 a with
      | none => rfl
      | some j =>
        rcases ow3_cases e with ⟨i, h1, h2⟩ | ⟨h1, h2, h3⟩
        · rw [ow2_none (owc_of n) h] at h1; cases h1
        · rw [n] at h2; cases h2
    refine k v F2 H2 ow3 R3 (g.tr g3) (fun z => ?_) ?_
    · obtain ⟨z1, z2⟩ := Bool.and_eq_true_iff.mp z
      have n := nb (by simpa using z2)
      refine (hq z1).tr fun a o e => keepH e ?_
      show (ow a).bind (refIx as) = none
      cases e2 : ow a with
      | none => rfl
      | some j =>
        show refIx as j = none
        cases e3 : refIx as j with
        | none => rfl
        | some i => exact absurd (List.mem_of_getElem? (refIx_at e3)) (n j)
    · refine Res.start ⟨T.np, T.nu, ?_⟩ g
      obtain ⟨S, hS, hs'⟩ := T.res
      refine ⟨S, fun a sa => ?_, hs'⟩
      obtain ⟨p1, p2, p3, p4⟩ := hS a sa
      have own : ∀ {j}, ow a = some j → refIx as j ≠ none := fun {j} e z => by
        have n := owc_ref e z
        have := (R.sep a j e).2.2
        rw [B_pos n] at p3
        exact this p3
      refine ⟨?_, p2, frB_none p3, p4, fun h z => ?_⟩
      · cases e : ow3 a with
        | none => rfl
        | some j =>
          rcases ow3_cases e with ⟨i, h1, h2⟩ | ⟨h1, h2, h3⟩
          · rw [p1] at h1; cases h1
          · exact absurd h3 (own h2)
      · rw [B_pos (owc_of z)] at p3
        exact h p3
end
end IX

/-! text IX11 -/
set_option maxHeartbeats 1000000
namespace IX
open PySem PySem.Spec PyProof.Rows L2
variable [KC]
/-- a def that may be called by its name -/
structure FnE (E : ExtK) (P : Program) (w : World) (K : PySem.W.Frag) (mg : Str → Option Value) (base : Heap) (k : Nat) (x : Str) (params : Arguments) (body : List Stmt) (scope : Scope) (ps : List Str) (f : FSem) : Prop where
  ex : ∃ (fA : Addr) (fd : FuncData), FnOk P w K mg base CX0 k fA fd ps (spI E f ps.length) ∧ mg x = some (.ref fA) ∧ FunD K x x params body scope [] [] fA fd
  bd : ∀ (kV doc pm : Value) (an : Option Addr) (cdv ct : Value) (us : List Value), us.length = ps.length → bindArgs (PySem.W.fnOf x x params body scope .none kV doc pm an cdv ct) ⟨us, []⟩ = pure (ps.zip us)
theorem FnE.mono {E : ExtK} {P : Program} {w : World} {K : PySem.W.Frag} {mg : Str → Option Value} {base : Heap} {j k : Nat} {x : Str} {params : Arguments} {body : List Stmt} {scope : Scope} {ps : List Str} {f : FSem} (h : FnE E P w K mg base j x params body scope ps f) (l : j ≤ k) : FnE E P w K mg base k x params body scope ps f := by
  obtain ⟨fA, fd, h1, h2⟩ := h.ex
  exact ⟨⟨fA, fd, h1.mono l, h2⟩, h.bd⟩
section
variable {E : ExtK} {X : Cx} [KX X] {e : Expr} {es : List Expr} {p pos : Pos} {k j : Nat} {x : Str} {params : Arguments} {body : List Stmt} {scope : Scope} {ps : List Str} {f : FSem}
theorem evCall_some {f : FSem} {a : EvR} {env env' : SEnv} {r : Slot} (h : evCall f a env = some (r, env')) : ∃ as e1 ss outs, a env = some (as, e1) ∧ refsOk as = true ∧ argSs e1 as = some ss ∧ f ss = some (r, outs) ∧ backS as outs e1 = some env' := by
  obtain ⟨⟨as, e1⟩, h1, h⟩ := bind2 h
  have h : (if refsOk as = true then (argSs e1 as).bind fun ss => (f ss).bind fun q => (backS as q.2 e1).map fun e => (q.1, e) else none) = some (r, env') := h
  split at h
  · rename_i z
    obtain ⟨ss, h2, h⟩ := bind2 h
    obtain ⟨⟨r', outs⟩, h3, h⟩ := bind2 h
    obtain ⟨e2, h4, h⟩ := Option.map_eq_some_iff.mp h
    cases h
    exact ⟨as, e1, ss, outs, h1, z, h2, h3, h4⟩
  · cases h
theorem argSs_len_ok {n : Nat} {as : List Arg} (h : as.length = n) : as.length = n := h
/-- f(e, ..) -/
theorem se_call {q br : Bool} {ev : EvR} (F : FnE E X.prog X.w X.K X.mg X.base k x params body scope ps f) (hr : Room j X.A) (hk : k ≤ j) (hg : Gl X x) (ha : SAr E X (e :: es) q br ev) (hl : (e :: es).length = ps.length) (hev : ∀ env as env', ev env = some (as, env') → as.length = (e :: es).length)
    (hdb : (x == ("__debug__" : Str)) = false := by decide) (he : starEach (e :: es) X.env = (false, eval e X.env) :: starEach es X.env := by rfl) (hpl : (backTo pos (starEach es X.env)).any (·.1) = false := by rfl) :
    SE E X (.Call (.Name x p) (e :: es) [] pos) (q && !br) (evCall f ev) := ⟨fun fr => by
  obtain ⟨fA, fd, F1, hm, FD⟩ := F.ex
  refine (pe_call (F1.mono hk) hr hg hm FD.kp (FD.bindsN F.bd) .nil pass0 (ha.pa fr) hdb he hpl).weak fun σ H Q ⟨F, ow, env, r, env', R, ee, k⟩ => ?_
  obtain ⟨as, e1, ss, outs, h1, h2, h3, h4, h5⟩ := evCall_some ee
  refine ⟨F, ow, env, as, e1, R, h1, fun vs F' H' ow' R' g hq aok => ?_⟩
  show spI E f ps.length (vs ++ []) H' Q E0
  rw [List.append_nil]
  exact call_core (br := br) R' g hq aok ((hev _ _ _ h1).trans hl) h2 h3 h4 h5 (fun z => ha.nb z _ _ _ h1) k⟩
theorem se_call0 (F : FnE E X.prog X.w X.K X.mg X.base k x params body scope [] f) (hr : Room j X.A) (hk : k ≤ j) (hg : Gl X x) (hdb : (x == ("__debug__" : Str)) = false := by decide) : SE E X (.Call (.Name x p) [] [] pos) true (evCall f arN) := ⟨fun fr => by
  obtain ⟨fA, fd, F1, hm, FD⟩ := F.ex
  refine (pe_call0 (F1.mono hk) hr hg hm FD.kp (FD.bindsN F.bd) .nil pass0 hdb).weak fun σ H Q ⟨F, ow, env, r, env', R, ee, k⟩ => ?_
  obtain ⟨as, e1, ss, outs, h1, h2, h3, h4, h5⟩ := evCall_some ee
  cases h1
  show spI E f 0 [] H Q E0
  exact call_core (vs := []) (q := true) (br := false) R Grow.refl (fun _ => Ex.refl _) .nil rfl h2 h3 h4 h5 (fun _ _ => List.not_mem_nil) k⟩
/-! lengths of the arguments -/
theorem arN_len : ∀ env as env', arN env = some (as, env') → as.length = 0 := fun env as env' h => by cases h; rfl
theorem arV_len {ev : EvB} {t : EvR} {n : Nat} (h : ∀ env as env', t env = some (as, env') → as.length = n) : ∀ env as env', arV ev t env = some (as, env') → as.length = n + 1 := fun env as env' hh => by
  obtain ⟨⟨d, e1⟩, h1, h0⟩ := bind2 hh
  obtain ⟨⟨as', e2⟩, h2, h3⟩ := Option.map_eq_some_iff.mp h0
  cases h3
  rw [List.length_cons, h _ _ _ h2]
theorem arR_len {i : Nat} {t : EvR} {n : Nat} (h : ∀ env as env', t env = some (as, env') → as.length = n) : ∀ env as env', arR i t env = some (as, env') → as.length = n + 1 := fun env as env' hh => by
  unfold arR at hh
  split at hh
  · split at hh
    · obtain ⟨⟨as', e2⟩, h2, h3⟩ := Option.map_eq_some_iff.mp hh
      cases h3
      rw [List.length_cons, h _ _ _ h2]
    · cases hh
  · cases hh
/-! ### with keywords -/
structure SKr (E : ExtK) (X : Cx) (kws : List Keyword) (q br : Bool) (ev : EvR) : Prop where
  pk : ∀ fr, PK X kws (TAr E fr q ev)
  nb : br = false → ∀ env as env', ev env = some (as, env') → ∀ j, Arg.ref j ∉ as
theorem PK.weak {kws : List Keyword} {t t' : TA} (h : PK X kws t) (w : ∀ σ H Q, t' σ H Q → t σ H Q) : PK X kws t' := ⟨fun pos pins s σ H Q I k => h.run pos pins s σ H Q I (w σ H Q k)⟩
theorem skr_nil : SKr E X [] true false arN := ⟨fun fr => PK.weak pk_nil fun σ H Q ⟨F, ow, env, as, env', R, ee, k⟩ => by
  cases ee
  exact k [] F H ow R Grow.refl (fun _ => Ex.refl _) .nil, fun _ env as env' h j => by cases h; simp⟩
theorem skr_val {nm : Option Str} {kpos : Pos} {kws : List Keyword} {q q' br : Bool} {ev : EvB} {t : EvR} (h : SP E X e q ev) (ht : SKr E X kws q' br t) : SKr E X (⟨nm, e, kpos⟩ :: kws) (q && q') br (arV ev t) := ⟨fun fr => PK.weak (pk_cons (h.pe fr) (ht.pk fr)) fun σ H Q ⟨F, ow, env, as, env', R, ee, k⟩ => by
  obtain ⟨⟨d, e1⟩, h1, h⟩ := bind2 ee
  obtain ⟨⟨as', e2⟩, h2, h⟩ := Option.map_eq_some_iff.mp h
  cases h
  refine ⟨F, ow, env, d, e1, R, h1, fun v F1 H1 ow1 R1 g1 q1 r1 => ⟨F1, ow1, e1, _, _, R1, h2, fun vs F2 H2 ow2 R2 g2 q2 r2 => ?_⟩⟩
  refine k _ F2 H2 ow2 R2 (g1.tr g2) (fun z => ?_) (.val (Rp.mono g2.f _ _ r1) r2)
  obtain ⟨z1, z2⟩ := Bool.and_eq_true_iff.mp z
  exact (q1 z1).tr (q2 z2), fun z env as env' hh j => by
  obtain ⟨⟨d, e1⟩, h1, h⟩ := bind2 hh
  obtain ⟨⟨as', e2⟩, h2, h⟩ := Option.map_eq_some_iff.mp h
  cases h
  have := ht.nb z _ _ _ h2 j
  simp [this]⟩
theorem skr_ref {nm : Option Str} {kpos : Pos} {kws : List Keyword} {q br : Bool} {y : Str} {i : Nat} {t : EvR} (h : PE X (.Name y pos) (tVar i)) (ht : SKr E X kws q br t) : SKr E X (⟨nm, .Name y pos, kpos⟩ :: kws) q true (arR i t) := ⟨fun fr => PK.weak (pk_cons h (ht.pk fr)) fun σ H Q ⟨F, ow, env, as, env', R, ee, k⟩ => by
  unfold arR at ee
  split at ee
  · rename_i s h0
    split at ee
    · rename_i ob
      obtain ⟨⟨as', e2⟩, h2, h⟩ := Option.map_eq_some_iff.mp ee
      cases h
      rcases R.sl _ _ h0 with z | ⟨v, hv, _⟩
      · subst z; cases ob
      · exact ⟨v, hv, F, ow, env, _, _, R, h2, fun vs F2 H2 ow2 R2 g2 q2 r2 => k _ F2 H2 ow2 R2 g2 q2 (.ref hv r2)⟩
    · cases ee
  · (cases ee), fun z => nomatch z⟩
/-- the picked ones -/
def pick {α : Type} (l : List α) : List Nat → List α
  | [] => []
  | i :: is => match l[i]? with
    | some a => a :: pick l is
    | none => pick l is
theorem ArgsOk.append {F : Hp} {σ : L2.St} : ∀ {vs ws : List V} {as bs : List Arg}, ArgsOk F σ vs as → ArgsOk F σ ws bs → ArgsOk F σ (vs ++ ws) (as ++ bs)
  | _, _, _, _, .nil, s => s
  | _, _, _, _, .val r t, s => .val r (ArgsOk.append t s)
  | _, _, _, _, .ref r t, s => .ref r (ArgsOk.append t s)
theorem ArgsOk.pick {F : Hp} {σ : L2.St} {vs : List V} {as : List Arg} (h : ArgsOk F σ vs as) : ∀ is, ArgsOk F σ (pick vs is) (pick as is)
  | [] => .nil
  | i :: is => by
    obtain ⟨l, g⟩ := h.get
    unfold IX.pick
    cases e : as[i]? with
    | none =>
      have : vs[i]? = none := by rw [List.getElem?_eq_none_iff] at e ⊢; omega
      rw [this]
      exact ArgsOk.pick h is
    | some a =>
      obtain ⟨v, h1, h2⟩ := g e
      rw [h1]
      cases a with
      | val d => exact .val h2 (ArgsOk.pick h is)
      | ref j => exact .ref h2 (ArgsOk.pick h is)
theorem vals_pick {vs : List V} {us : List Value} (h : Vals vs us) : ∀ is, Vals (pick vs is) (pick us is)
  | [] => .nil
  | i :: is => by
    unfold pick
    cases e : vs[i]? with
    | none =>
      have : us[i]? = none := by rw [List.getElem?_eq_none_iff] at e ⊢; rw [← h.length]; exact e
      rw [this]
      exact vals_pick h is
    | some a =>
      obtain ⟨u, h1, h2⟩ := h.get e
      rw [h1]
      exact .cons h2 (vals_pick h is)
def evCallK (f : FSem) (is : List Nat) (a b : EvR) : EvE := evCall f fun env => (a env).bind fun p => (b p.2).map fun q => (pick (p.1 ++ q.1) is, q.2)
theorem pick_len {α : Type} {l : List α} : ∀ {is : List Nat}, (∀ i ∈ is, i < l.length) → (pick l is).length = is.length
  | [], _ => rfl
  | i :: is, h => by
    unfold pick
    have hi := h i (by simp)
    rw [List.getElem?_eq_getElem hi]
    rw [List.length_cons, List.length_cons, pick_len fun j hj => h j (by simp [hj])]
theorem pick_mem {α : Type} {l : List α} {a : α} : ∀ {is : List Nat}, a ∈ pick l is → a ∈ l
  | [], h => by simp [pick] at h
  | i :: is, h => by
    unfold pick at h
    split at h
    · rename_i b e
      rcases List.mem_cons.mp h with z | z
      · subst z; exact List.mem_of_getElem? e
      · exact pick_mem z
    · exact pick_mem h
/-- f(e, .., k = v, ..): is tells where each parameter's value stands in what is written -/
theorem se_callK {q q' br br' : Bool} {eva evk : EvR} {n : Nat} {ks : List Str} {kws : List Keyword} {is : List Nat} (F : FnE E X.prog X.w X.K X.mg X.base k x params body scope ps f) (hr : Room j X.A) (hk : k ≤ j) (hg : Gl X x) (ha : SAr E X (e :: es) q br eva) (hkw : SKr E X kws q' br' evk)
    (hn : (e :: es).length = n) (hla : ∀ env as env', eva env = some (as, env') → as.length = n) (hlk : ∀ env as env', evk env = some (as, env') → as.length = ks.length) (hi : is.all (fun i => decide (i < n + ks.length)) = true) (hp : is.length = ps.length)
    (hb : ∀ (kV doc pm : Value) (an : Option Addr) (cdv ct : Value) (us ws : List Value), us.length = n → ws.length = ks.length → bindArgs (PySem.W.fnOf x x params body scope .none kV doc pm an cdv ct) ⟨us, ks.zip ws⟩ = pure (ps.zip (pick (us ++ ws) is)))
    (hall : (backToKw pos (keywordEach kws X.env)).all (·.1.isSome) = true := by rfl) (hks : (backToKw pos (keywordEach kws X.env)).filterMap (·.1) = ks := by rfl)
    (hdb : (x == ("__debug__" : Str)) = false := by decide) (he : starEach (e :: es) X.env = (false, eval e X.env) :: starEach es X.env := by rfl)
    (hpl : ((backTo pos (starEach (e :: es) X.env)).any (·.1) || (backToKw pos (keywordEach kws X.env)).any (·.1.isNone)) = false := by rfl) :
    SE E X (.Call (.Name x p) (e :: es) kws pos) ((q && q') && !(br || br')) (evCallK f is eva evk) := ⟨fun fr => by
  obtain ⟨fA, fd, F1, hm, FD⟩ := F.ex
  have KB : KBn X.K fd ps n ks (fun us ws => pick (us ++ ws) is) (fun us ws => pick (us ++ ws) is) := by
    obtain ⟨oc, od, dV, kV, doc, pm, an, cdv, ct, osl, rfl, lk, hcd, hD, hK⟩ := FD.ex
    rcases hD with ⟨_, rfl⟩ | ⟨e, _⟩
    · exact ⟨fun s us ws _ l1 l2 => .of_eq (hb kV doc pm an cdv ct us ws l1 l2), fun r1 r2 => vals_pick (r1.append r2) is⟩
    · exact absurd rfl e
  refine (pe_callN (F1.mono hk) hr hg hm FD.kp KB pass0 (ha.pa fr) (hkw.pk fr) hall hks hdb he hpl).weak fun σ H Q ⟨F, ow, env, r, env', R, ee, k⟩ => ?_
  obtain ⟨as, e1, ss, outs, h1, h2, h3, h4, h5⟩ := evCall_some ee
  obtain ⟨⟨as1, e2⟩, g1, h1⟩ := bind2 h1
  obtain ⟨⟨as2, e3⟩, g2, h1⟩ := Option.map_eq_some_iff.mp h1
  cases h1
  refine ⟨F, ow, env, as1, e2, R, g1, fun vs F' H' ow' R' g hq aok => ⟨F', ow', e2, as2, e3, R', g2, fun zs F2 H2 ow2 R2 gg hq2 aok2 => ?_⟩⟩
  have al := aok.mono gg.f (σ := σ)
  refine ⟨aok.get.1.trans (hla _ _ _ g1), aok2.get.1.trans (hlk _ _ _ g2), ?_⟩
  refine call_core (br := br || br') (q := q && q') R2 (g.tr gg) (fun z => ?_) ((al.append aok2).pick is) ?_ h2 h3 h4 h5 (fun z j hj => ?_) k
  · obtain ⟨z1, z2⟩ := Bool.and_eq_true_iff.mp z
    exact (hq z1).tr (hq2 z2)
  · rw [pick_len, hp]
    intro i hmem
    have := List.all_eq_true.mp hi i hmem
    rw [List.length_append, hla _ _ _ g1, hlk _ _ _ g2]
    simpa using this
  · obtain ⟨z1, z2⟩ := Bool.or_eq_false_iff.mp z
    rcases List.mem_append.mp (pick_mem hj) with y | y
    · exact ha.nb z1 _ _ _ g1 j y
    · exact hkw.nb z2 _ _ _ g2 j y⟩
/-- f(k = v, ..) -/
theorem pe_callN0 {CX : CXT} {fA : Addr} {fd : FuncData} {sp : Sp} {XE : XK} {ks : List Str} {kws : List Keyword} {tk : TA} {g : List Value → List Value → List Value} {gV : List V → List V → List V} (F : FnOk X.prog X.w X.K X.mg X.base CX k fA fd ps sp) (hr : Room k X.A) (hg : Gl X x) (hm : X.mg x = some (.ref fA)) (hk : PySem.W.keepIn X.K (.ref fA) = true) (hb : KBn X.K fd ps 0 ks g gV) (hx : Passes CX X XE)
    (hkw : PK X kws tk) (hall : (backToKw pos (keywordEach kws X.env)).all (·.1.isSome) = true := by rfl) (hks : (backToKw pos (keywordEach kws X.env)).filterMap (·.1) = ks := by rfl)
    (hdb : (x == ("__debug__" : Str)) = false := by decide) (hpl : ((backTo pos (starEach [] X.env)).any (·.1) || (backToKw pos (keywordEach kws X.env)).any (·.1.isNone)) = false := by rfl) :
    PE X (.Call (.Name x p) [] kws pos) (tCallN 0 ks.length sp gV XE tNil tk) := by
  refine ⟨fun pins s σ H Q I h => ?_⟩
  refine wpAny_Call_Name_kw (ld_glob I hg hm ?_ hdb)
  refine PySem.W.callWith_KW0 (h₀ := X.base) I.ok.mod.kin hk hall (thn (hkw.run pos pins s σ H _ I h) fun ws s2 ⟨zs, H2, I2, rz, l1, l2, q2⟩ => ⟨I2.kIn, ?_⟩) hpl
  rw [hks]
  exact run_fnN (us := []) F hr hb hx I2 .nil rz l1 l2 q2
theorem se_callK0 {q' br' : Bool} {evk : EvR} {ks : List Str} {kws : List Keyword} {is : List Nat} (F : FnE E X.prog X.w X.K X.mg X.base k x params body scope ps f) (hr : Room j X.A) (hk : k ≤ j) (hg : Gl X x) (hkw : SKr E X kws q' br' evk)
    (hlk : ∀ env as env', evk env = some (as, env') → as.length = ks.length) (hi : is.all (fun i => decide (i < ks.length)) = true) (hp : is.length = ps.length)
    (hb : ∀ (kV doc pm : Value) (an : Option Addr) (cdv ct : Value) (ws : List Value), ws.length = ks.length → bindArgs (PySem.W.fnOf x x params body scope .none kV doc pm an cdv ct) ⟨[], ks.zip ws⟩ = pure (ps.zip (pick ws is)))
    (hall : (backToKw pos (keywordEach kws X.env)).all (·.1.isSome) = true := by rfl) (hks : (backToKw pos (keywordEach kws X.env)).filterMap (·.1) = ks := by rfl)
    (hdb : (x == ("__debug__" : Str)) = false := by decide) (hpl : ((backTo pos (starEach [] X.env)).any (·.1) || (backToKw pos (keywordEach kws X.env)).any (·.1.isNone)) = false := by rfl) :
    SE E X (.Call (.Name x p) [] kws pos) (q' && !br') (evCallK f is arN evk) := ⟨fun fr => by
  obtain ⟨fA, fd, F1, hm, FD⟩ := F.ex
  have KB : KBn X.K fd ps 0 ks (fun us ws => pick (us ++ ws) is) (fun us ws => pick (us ++ ws) is) := by
    obtain ⟨oc, od, dV, kV, doc, pm, an, cdv, ct, osl, rfl, lk, hcd, hD, hK⟩ := FD.ex
    rcases hD with ⟨_, rfl⟩ | ⟨e, _⟩
    · refine ⟨fun s us ws _ l1 l2 => ?_, fun r1 r2 => vals_pick (r1.append r2) is⟩
      obtain rfl := List.length_eq_zero_iff.mp l1
      exact .of_eq (hb kV doc pm an cdv ct ws l2)
    · exact absurd rfl e
  refine (pe_callN0 (F1.mono hk) hr hg hm FD.kp KB pass0 (hkw.pk fr) hall hks hdb hpl).weak fun σ H Q ⟨F, ow, env, r, env', R, ee, k⟩ => ?_
  obtain ⟨as, e1, ss, outs, h1, h2, h3, h4, h5⟩ := evCall_some ee
  obtain ⟨⟨as1, e2⟩, g1, h1⟩ := bind2 h1
  obtain ⟨⟨as2, e3⟩, g2, h1⟩ := Option.map_eq_some_iff.mp h1
  cases h1
  cases g1
  refine ⟨F, ow, env, as2, e3, R, g2, fun zs F2 H2 ow2 R2 gg hq2 aok2 => ⟨rfl, aok2.get.1.trans (hlk _ _ _ g2), ?_⟩⟩
  refine call_core (br := br') (q := q') R2 gg hq2 (aok2.pick is) ?_ h2 h3 h4 h5 (fun z j hj => hkw.nb z _ _ _ g2 j (pick_mem hj)) k
  rw [pick_len, hp]
  intro i hmem
  have := List.all_eq_true.mp hi i hmem
  rw [hlk _ _ _ g2]
  simpa using this⟩
end
end IX

/-! text IX12 -/
set_option maxHeartbeats 1000000
namespace IX
open PySem PySem.Spec PyProof.Rows L2
variable [KC]
/-! ### a name's object changes -/
section
variable {E : ExtK} {fr : Fra} {F H F' H' F0 H0 : Hp} {ow ow' ow0 : Ow} {env env' : SEnv} {σ : L2.St} {v : V} {s s' : Slot} {i : Nat}
theorem Rel.chg (R : Rel E fr F H ow env σ) (hi : env[i]? = some s) (hv : σ[i]? = some (some v)) (hH : ∀ a, ow a ≠ some i → H' a = H a) (hd : ∀ a, ow a = some i → H' a ≠ none) (hs : Sl E F H' (fun a => ow a = some i) v s') (hp : s'.par = s.par) : Rel E fr F H' ow (env.set i s') σ where
  fh := fun a o e => by
    have n : ow a ≠ some i := fun z => by rw [(R.sep a i z).1] at e; cases e
    rw [hH a n]; exact R.fh a o e
  f0 := R.f0
  bh := fun a o e => by
    have n : ow a ≠ some i := fun z => by rw [(R.sep a i z).2.1] at e; cases e
    rw [hH a n]; exact R.bh a o e
  fb := R.fb
  dom := fun a h => by
    by_cases z : ow a = some i
    · exact hd a z
    · rw [hH a z]; exact R.dom a h
  sep := fun a j e => by
    obtain ⟨h1, h2, h3⟩ := R.sep a j e
    refine ⟨h1, h2, ?_⟩
    by_cases z : ow a = some i
    · exact hd a z
    · rw [hH a z]; exact h3
  len := by rw [List.length_set]; exact R.len
  sl := fun j t e => by
    rcases get_set_of e with ⟨rfl, rfl⟩ | ⟨nj, e⟩
    · exact .inr ⟨v, hv, hs⟩
    · rcases R.sl j t e with z | ⟨u, e3, q⟩
      · exact .inl z
      · refine .inr ⟨u, e3, q.mono E (Ex.refl _) (fun _ z => z) fun a (ha : ow a = some j) => hH a fun z => ?_⟩
        rw [ha] at z; cases z; exact nj rfl
  pr := fun j t e p => by
    rcases get_set_of e with ⟨rfl, rfl⟩ | ⟨nj, e⟩
    · obtain ⟨u, h1, h2⟩ := R.pr j s hi (hp ▸ p)
      rw [hv] at h2; cases h2
      exact ⟨v, h1, hv⟩
    · exact R.pr j t e p
theorem Grow.chg (hH : ∀ a, ow a = none → H' a = H a) (hd : ∀ a, H a ≠ none → H' a ≠ none) : Grow F H ow F H' ow := ⟨Ex.refl _, fun a o h n => by rw [hH a n]; exact h, hd, fun _ _ n => ⟨rfl, n⟩⟩
/-- a list of the name i is rewritten -/
theorem Rel.lst {p : Addr} {vs : List V} {ds : List PyData} {b : Bool} {ds0 : List PyData} (R : Rel E fr F H ow env σ) (hi : env[i]? = some (.own b ds0)) (hv : σ[i]? = some (some (.ref p))) (op : ow p = some i) (r : RpA F vs ds) : Rel E fr F (upd H p (.lst vs)) ow (env.set i (.own b ds)) σ ∧ Grow F H ow F (upd H p (.lst vs)) ow := by
  have ne : ∀ a, ow a ≠ some i → upd H p (.lst vs) a = H a := fun a n => upd_ne fun z => n (z ▸ op)
  have nn : ∀ a, H a ≠ none → upd H p (.lst vs) a ≠ none := fun a h => by
    by_cases z : a = p
    · subst z; rw [upd_same]; exact fun z => nomatch z
    · rw [upd_ne z]; exact h
  refine ⟨R.chg hi hv ne (fun a ha => nn a (R.sep a i ha).2.2) ⟨p, vs, rfl, op, upd_same, r⟩ rfl, Grow.chg (fun a n => ne a fun z => by rw [n] at z; cases z) nn⟩
end
/-! ### own lists: o[k] = e, methods -/
/-- a method that changes a list: from its items and the arguments to the result and its items -/
def MutV (X : Cx) (id : String) (f : List PyData → List PyData → Option (PyData × List PyData)) : Prop :=
  ∃ r0, MtR X id r0 ∧ ∀ (xs : List V) (H : Hp) (Q : VK) (F : Hp) (l : Addr) (vs : List V) (ds as : List PyData) (d : PyData) (ds' : List PyData), Ex F H → H l = some (.lst vs) → RpA F vs ds → RpA F xs as → f ds as = some (d, ds') →
    (∀ v vs', Rp F v d → RpA F vs' ds' → Q v (upd H l (.lst vs'))) → r0 (.ref l) xs H Q
section
variable {X : Cx} [KX X]
theorem MutV.of {id : String} {f : List PyData → List PyData → Option (PyData × List PyData)} {r0 : V → List V → Hp → VK → Prop} (h : MtR X id r0) (w : ∀ (xs : List V) (H : Hp) (Q : VK) (F : Hp) (l : Addr) (vs : List V) (ds as : List PyData) (d : PyData) (ds' : List PyData), Ex F H → H l = some (.lst vs) → RpA F vs ds → RpA F xs as → f ds as = some (d, ds') →
    (∀ v vs', Rp F v d → RpA F vs' ds' → Q v (upd H l (.lst vs'))) → r0 (.ref l) xs H Q) : MutV X id f := ⟨r0, h, w⟩
def mAppend : List PyData → List PyData → Option (PyData × List PyData)
  | ds, [d] => if ds.length < sizeLine then some (.none, ds ++ [d]) else none
  | _, _ => none
theorem mu_append : MutV X "list.append" mAppend := .of mt_append fun xs H Q F l vs ds as d ds' ex hl r ra hf k => by
  unfold mAppend at hf
  split at hf
  · split at hf
    · rename_i z
      cases hf
      cases ra with
      | cons a t =>
        cases t
        exact ⟨l, vs, _, rfl, rfl, hl, by rw [r.length]; exact z, k .non _ .non (r.append (.cons a .nil))⟩
    · cases hf
  · cases hf
def mExtend : List PyData → List PyData → Option (PyData × List PyData)
  | ds, [.list es] => if ds.length + es.length ≤ sizeLine then some (.none, ds ++ es) else none
  | _, _ => none
theorem mu_extend : MutV X "list.extend" mExtend := .of mt_extend fun xs H Q F l vs ds as d ds' ex hl r ra hf k => by
  unfold mExtend at hf
  split at hf
  · split at hf
    · rename_i z
      cases hf
      cases ra with
      | cons a t =>
        cases t
        cases a with
        | lst hb rb => exact ⟨l, _, vs, _, rfl, rfl, hl, ex _ _ hb, by rw [r.length, rb.length]; exact z, k .non _ .non (r.append rb)⟩
    · cases hf
  · cases hf
def mPop : List PyData → List PyData → Option (PyData × List PyData)
  | ds, [] => ds.getLast?.map fun d => (d, ds.dropLast)
  | ds, [.int i] => if -(2 ^ 63) ≤ i ∧ i < 2 ^ 63 then (ixN ds.length i).bind fun k => ds[k]?.map fun d => (d, ds.eraseIdx k) else none
  | _, _ => none
theorem mu_pop : MutV X "list.pop" mPop := .of (MtR.or mt_pop mt_popAt) fun xs H Q F l vs ds as d ds' ex hl r ra hf k => by
  unfold mPop at hf
  split at hf
  · obtain ⟨d0, h1, h2⟩ := Option.map_eq_some_iff.mp hf
    cases h2
    cases ra
    rw [List.getLast?_eq_getElem?] at h1
    obtain ⟨v, hv, rv⟩ := r.get h1
    rw [← r.length] at hv
    exact .inl ⟨l, vs, v, rfl, rfl, hl, hv, k v _ rv r.dropLast⟩
  · split at hf
    · rename_i z
      obtain ⟨j, h1, h2⟩ := bind2 hf
      obtain ⟨d0, h3, h4⟩ := Option.map_eq_some_iff.mp h2
      cases h4
      cases ra with
      | cons a t =>
        cases t
        cases a
        obtain ⟨v, hv, rv⟩ := r.get h3
        refine .inr ⟨l, vs, _, j, v, rfl, rfl, hl, z.1, z.2, ?_, hv, k v _ rv (r.eraseIdx j)⟩
        rw [r.length]; exact (ixN_seq h1).1
    · cases hf
  · cases hf
def mInsert : List PyData → List PyData → Option (PyData × List PyData)
  | ds, [.int i, d] => if ds.length < sizeLine ∧ 0 ≤ i ∧ i < 2 ^ 63 then some (.none, ds.take i.toNat ++ [d] ++ ds.drop i.toNat) else none
  | _, _ => none
theorem mu_insert : MutV X "list.insert" mInsert := .of mt_insert fun xs H Q F l vs ds as d ds' ex hl r ra hf k => by
  unfold mInsert at hf
  split at hf
  · split at hf
    · rename_i z
      cases hf
      cases ra with
      | cons a t =>
        cases a
        cases t with
        | cons a t =>
          cases t
          exact ⟨l, vs, _, _, rfl, rfl, hl, by rw [r.length]; exact z.1, z.2.1, z.2.2, k .non _ .non (((r.take _).append (.cons a .nil)).append (r.drop _))⟩
    · cases hf
  · cases hf
def mClear : List PyData → List PyData → Option (PyData × List PyData)
  | _, [] => some (.none, [])
  | _, _ => none
theorem mu_clear : MutV X "list.clear" mClear := .of mt_clear fun xs H Q F l vs ds as d ds' ex hl r ra hf k => by
  unfold mClear at hf
  split at hf
  · cases hf
    cases ra
    exact ⟨l, vs, rfl, rfl, hl, k .non _ .non .nil⟩
  · cases hf
end
section
variable {E : ExtK} {X : Cx} [KX X] {e : Expr} {es : List Expr} {p pos : Pos} {x : Str} {i : Nat}
def ownAt (env : SEnv) (i : Nat) : Option (Bool × List PyData) := match env[i]? with
  | some (.own b ds) => some (b, ds)
  | _ => none
theorem ownAt_some {env : SEnv} {i : Nat} {b : Bool} {ds : List PyData} (h : ownAt env i = some (b, ds)) : env[i]? = some (.own b ds) := by
  unfold ownAt at h
  split at h
  · cases h; assumption
  · cases h
/-- x.m(..) of a name's own list -/
def evMut (i : Nat) (f : List PyData → List PyData → Option (PyData × List PyData)) (a : EvA) : EvB := fun env => (ownAt env i).bind fun _ => (a env).bind fun p => (ownAt p.2 i).bind fun o => (f o.2 p.1).map fun q => (q.1, p.2.set i (.own o.1 q.2))
theorem evMut_some {f : List PyData → List PyData → Option (PyData × List PyData)} {a : EvA} {env env' : SEnv} {d : PyData} (h : evMut i f a env = some (d, env')) : ∃ b0 ds0 as e1 b ds ds', env[i]? = some (.own b0 ds0) ∧ a env = some (as, e1) ∧ e1[i]? = some (.own b ds) ∧ f ds as = some (d, ds') ∧ env' = e1.set i (.own b ds') := by
  obtain ⟨⟨b0, ds0⟩, h1, h⟩ := bind2 h
  obtain ⟨⟨as, e1⟩, h2, h⟩ := bind2 h
  obtain ⟨⟨b, ds⟩, h3, h⟩ := bind2 h
  obtain ⟨⟨d', ds'⟩, h4, h⟩ := Option.map_eq_some_iff.mp h
  cases h
  exact ⟨b0, ds0, as, e1, b, ds, ds', ownAt_some h1, h2, ownAt_some h3, h4, rfl⟩
theorem mut_core {fr : Fra} {F0 H0 F H : Hp} {ow0 ow : Ow} {env : SEnv} {σ : L2.St} {b : Bool} {ds : List PyData} {l : Addr} {f : List PyData → List PyData → Option (PyData × List PyData)} {d : PyData} {ds' as : List PyData} {xs : List V} {Q : VK} {r0 : V → List V → Hp → VK → Prop}
    (w : ∀ (xs : List V) (H : Hp) (Q : VK) (F : Hp) (l : Addr) (vs : List V) (ds as : List PyData) (d : PyData) (ds' : List PyData), Ex F H → H l = some (.lst vs) → RpA F vs ds → RpA F xs as → f ds as = some (d, ds') →
      (∀ v vs', Rp F v d → RpA F vs' ds' → Q v (upd H l (.lst vs'))) → r0 (.ref l) xs H Q)
    (R : Rel E fr F H ow env σ) (g : Grow F0 H0 ow0 F H ow) (hi : env[i]? = some (.own b ds)) (hv : σ[i]? = some (some (.ref l))) (rx : RpA F xs as) (hf : f ds as = some (d, ds'))
    (k : ∀ v F' H' ow', Rel E fr F' H' ow' (env.set i (.own b ds')) σ → Grow F0 H0 ow0 F' H' ow' → (false = true → Ex H0 H') → Rp F' v d → Q v H') : r0 (.ref l) xs H Q := by
  rcases R.sl i _ hi with z | ⟨v', h1, p, vs, e, op, hp, r⟩
  · cases z
  · rw [hv] at h1
    cases h1
    cases e
    refine w xs H Q F l vs ds as d ds' R.fh hp r rx hf fun v vs' rv rv' => ?_
    obtain ⟨R2, g2⟩ := R.lst hi hv op rv'
    exact k v F _ ow R2 (g.tr g2) (fun z => nomatch z) rv
theorem sp_mut {id : String} {name : Str} {apos : Pos} {q : Bool} {a : EvA} {f : List PyData → List PyData → Option (PyData × List PyData)} (h : PE X (.Name x p) (tVar i)) (pa : PlainAttrs "list") (slot : PySem.Slot "list" name id) (hty : typeOf (.builtin id) = pure (.type "method_descriptor")) (hm : MutV X id f) (ha : SA E X (e :: es) q a)
    (hbase : attributeBase (.Name x p) name X.env (eval (.Name x p) X.env) = eval (.Name x p) X.env := by rfl)
    (hfew : ((backTo pos (starEach (e :: es) X.env)).all (fun x => !x.1) && (backToKw pos (keywordEach [] X.env)).all (fun x => x.1.isSome)
      && decide ((e :: es).length + ([] : List Keyword).length + (if ([] : List Keyword).isEmpty then 0 else 1) < 30)) = true := by rfl)
    (hline : (apos.endLine == pos.line) = true := by rfl) (hs : starEach (e :: es) X.env = (false, eval e X.env) :: starEach es X.env := by rfl) (hplain : (backTo pos (starEach es X.env)).any (·.1) = false := by rfl) :
    SP E X (.Call (.Attribute (.Name x p) name apos) (e :: es) [] pos) false (evMut i f a) := ⟨fun fr => by
  obtain ⟨r0, hm0, w⟩ := hm
  refine (pe_bm pa slot hty hm0 h (ha.pa fr) hbase hfew hline hs hplain).weak fun σ H Q ⟨F, ow, env, d, env', R, ee, k⟩ => ?_
  obtain ⟨b0, ds0, as, e1, b, ds, ds', h1, h2, h3, h4, rfl⟩ := evMut_some ee
  rcases R.sl i _ h1 with z | ⟨v', h5, l, vs, rfl, op, hp, r⟩
  · cases z
  · refine ⟨_, h5, .inl ⟨rfl, vs, SqL.of hp⟩, F, ow, env, as, e1, R, h2, fun xs F' H' ow' R' g hq rx => ?_⟩
    exact mut_core w R' g h3 h5 rx h4 k⟩
theorem sp_mut0 {id : String} {name : Str} {apos : Pos} {f : List PyData → List PyData → Option (PyData × List PyData)} (h : PE X (.Name x p) (tVar i)) (pa : PlainAttrs "list") (slot : PySem.Slot "list" name id) (hty : typeOf (.builtin id) = pure (.type "method_descriptor")) (hm : MutV X id f)
    (hbase : attributeBase (.Name x p) name X.env (eval (.Name x p) X.env) = eval (.Name x p) X.env := by rfl) (hline : (apos.endLine == pos.line) = true := by rfl) :
    SP E X (.Call (.Attribute (.Name x p) name apos) [] [] pos) false (evMut i f evNil) := ⟨fun fr => by
  obtain ⟨r0, hm0, w⟩ := hm
  refine (pe_bm0 pa slot hty hm0 h hbase hline).weak fun σ H Q ⟨F, ow, env, d, env', R, ee, k⟩ => ?_
  obtain ⟨b0, ds0, as, e1, b, ds, ds', h1, h2, h3, h4, rfl⟩ := evMut_some ee
  cases h2
  rcases R.sl i _ h1 with z | ⟨v', h5, l, vs, rfl, op, hp, r⟩
  · cases z
  · exact ⟨_, h5, .inl ⟨rfl, vs, SqL.of hp⟩, mut_core w R Grow.refl h3 h5 .nil h4 k⟩⟩
/-- x[e'] = e -/
def xSetI (i : Nat) (ev ei : EvB) : EvS := fun env => (ev env).bind fun p => (ownAt p.2 i).bind fun _ => (ei p.2).bind fun q => match q.1 with
  | .int k => (ownAt q.2 i).bind fun o => (ixN o.2.length k).map fun j => .nxt (q.2.set i (.own o.1 (o.2.set j p.1)))
  | _ => none
theorem ss_setI {ie : Expr} {tpos spos : Pos} {q qi si : Bool} {ev ei : EvB} (h : PE X (.Name x p) (tVar i)) (he : SP E X e q ev) (hi : SB E X ie qi si ei)
    (ha : ∀ v, assign (.Subscript (.Name x p) ie tpos) X.env v = (do
      let ov ← holding [v] (eval (.Name x p) X.env)
      let iv ← holding [v, ov] (eval ie X.env)
      standAt tpos
      holding [v, ov, iv] (setItem ov iv v)
      release [v, ov, iv] []) := by intro _; rfl)
    (hs : swapsWithSole [.Subscript (.Name x p) ie tpos] e spos.line X.env = pure false := by rfl) (hw : swappedStores [.Subscript (.Name x p) ie tpos] e X.env = pure none := by rfl)
    (h1 : (assignEach [.Subscript (.Name x p) ie tpos] X.env).map (·.2) = [assign (.Subscript (.Name x p) ie tpos) X.env] := by rfl) :
    SS E X (.Assign [.Subscript (.Name x p) ie tpos] e spos) (xSetI i ev ei) := ⟨fun fr => (ps_asg (he.pe fr) (pg_sub h (hi.pe fr) set_list ha) hs hw h1).weak fun D σ H ⟨F, ow, env, o, R, ee, k⟩ => by
  obtain ⟨⟨d, e1⟩, g1, ee⟩ := bind2 ee
  obtain ⟨⟨b0, ds0⟩, g2, ee⟩ := bind2 ee
  obtain ⟨⟨kd, e2⟩, g3, ee⟩ := bind2 ee
  cases kd with
  | int kk =>
    obtain ⟨⟨b, ds⟩, g4, ee⟩ := bind2 ee
    obtain ⟨j, g5, ee⟩ := Option.map_eq_some_iff.mp ee
    cases ee
    refine ⟨F, ow, env, d, e1, R, g1, fun v F1 H1 ow1 R1 gr1 q1 r1 => ?_⟩
    rcases R1.sl i _ (ownAt_some g2) with z | ⟨v', h5, l, vs, rfl, op, hp, r⟩
    · cases z
    · refine ⟨_, h5, F1, ow1, e1, _, e2, R1, g3, fun iv F2 H2 ow2 R2 gr2 q2 r2 => ?_⟩
      rcases R2.sl i _ (ownAt_some g4) with z | ⟨v', h6, l', vs', e', op', hp', r'⟩
      · cases z
      · rw [h5] at h6
        cases h6
        cases e'
        have rd := Rp.mono gr2.f _ _ r1
        obtain ⟨R3, gr3⟩ := R2.lst (ownAt_some g4) h5 op' (r'.set rd j)
        exact ⟨l, vs', kk, j, rfl, r2.l.int, hp', by rw [r'.length]; exact g5, k F2 _ ow2 _ R3 ((gr1.f.tr gr2.f).tr gr3.f)⟩
  | _ => cases ee⟩
end
end IX

/-! text IX13 -/
set_option maxHeartbeats 1000000
namespace IX
open PySem PySem.Spec PyProof.Rows L2
/-! ### constants of the module -/
mutual
def datB (K : PySem.W.Frag) : Nat → Value → PyData → Bool
  | 0, _, _ => false
  | _ + 1, .none, .none => true
  | _ + 1, .bool b, .bool c => b == c
  | _ + 1, .int i _, .int j => decide (i = j)
  | _ + 1, .str x _, .str y => decide (x = y)
  | n + 1, .ref a, .tuple ds => (match K.lookup a with
    | some ⟨.type c, none, .seq its _, _⟩ => decide (c = "tuple") && (decide (its.size ≤ sizeLine) && datsB K n its.toList ds)
    | _ => false)
  | _ + 1, _, _ => false
def datsB (K : PySem.W.Frag) : Nat → List Value → List PyData → Bool
  | 0, _, _ => false
  | _ + 1, [], [] => true
  | n + 1, v :: vs, d :: ds => datB K n v d && datsB K n vs ds
  | _ + 1, _, _ => false
end
def dctB (K : PySem.W.Frag) (n : Nat) : List DictEntry → List (Str × PyData) → Bool
  | [], [] => true
  | e :: es, (k, d) :: r => (match e.key with
    | .str x _ => decide (x = k)
    | _ => false) && (datB K n e.val d && dctB K n es r)
  | _, _ => false
def dictB (K : PySem.W.Frag) (n : Nat) (a : Addr) (tab : List (Str × PyData)) : Bool := match K.lookup a with
  | some ⟨_, _, .dict es _, _⟩ => dctB K n es.toList tab
  | _ => false
variable [KC]
/-- a value that stands for data, whatever is frozen -/
def Dat (u : Value) (d : PyData) : Prop := ∃ v, RelV v u ∧ ∀ F : Hp, Rp F v d
theorem rp_f {v : V} {d : PyData} (h : ∀ F : Hp, Rp F v d) : Rp (fun _ => none) v d := h _
mutual
theorem datB_ok : ∀ (n : Nat) (u : Value) (d : PyData), datB KC.K n u d = true → ∃ v, RelV v u ∧ Rp (fun _ => none) v d
  | 0, _, _, h => by unfold datB at h; cases h
  | n + 1, u, d, h => by
    unfold datB at h
    split at h
    · rename_i e; cases e
    · exact ⟨.non, rfl, .non⟩
    · rename_i m b c hq
      have e : b = c := eq_of_beq h
      subst e
      exact ⟨.bl b, rfl, .bl b⟩
    · have e := of_decide_eq_true h
      subst e
      exact ⟨.int _, ⟨_, rfl⟩, .int _⟩
    · have e := of_decide_eq_true h
      subst e
      exact ⟨.str _, ⟨_, rfl⟩, .str _⟩
    · rename_i n' a ds e1
      cases e1
      split at h
      · rename_i c its m sl q
        obtain ⟨h1, h2⟩ := Bool.and_eq_true_iff.mp h
        obtain ⟨h3, h4⟩ := Bool.and_eq_true_iff.mp h2
        have e := of_decide_eq_true h1
        subst e
        obtain ⟨vs, r1, r2⟩ := datsB_ok n _ _ h4
        exact ⟨.ref a, rfl, .tup (.inr ⟨_, its, m, q, rfl, rfl, of_decide_eq_true h3, r1, rfl⟩) r2⟩
      · cases h
    · cases h
theorem datsB_ok : ∀ (n : Nat) (us : List Value) (ds : List PyData), datsB KC.K n us ds = true → ∃ vs, Vals vs us ∧ RpA (fun _ => none) vs ds
  | 0, _, _, h => by unfold datsB at h; cases h
  | n + 1, us, ds, h => by
    unfold datsB at h
    split at h
    · rename_i e; cases e
    · exact ⟨[], .nil, .nil⟩
    · rename_i n' v vs d ds e1
      cases e1
      obtain ⟨h1, h2⟩ := Bool.and_eq_true_iff.mp h
      obtain ⟨x, r1, r2⟩ := datB_ok n _ _ h1
      obtain ⟨xs, r3, r4⟩ := datsB_ok n _ _ h2
      exact ⟨x :: xs, .cons r1 r3, .cons r2 r4⟩
    · cases h
end
theorem datB_dat {n : Nat} {u : Value} {d : PyData} (h : datB KC.K n u d = true) : Dat u d := by
  obtain ⟨v, h1, h2⟩ := datB_ok n u d h
  exact ⟨v, h1, fun F => Rp.mono (fun _ _ z => by cases z) _ _ h2⟩
/-- a dict of the module, its keys texts -/
structure KD (mg : Str → Option Value) (K : PySem.W.Frag) (w : World) (x : Str) (tab : List (Str × PyData)) : Prop where
  ex : ∃ a es n, mg x = some (.ref a) ∧ KDict K w a es n ∧ (∀ z d, tab.lookup z = some d → ∃ u, PySem.W.nsIn K a z = some (some u) ∧ Dat u d) ∧ ∀ z, tab.lookup z = none → PySem.W.nsIn K a z = some none
theorem dctB_find {n : Nat} {z : Str} : ∀ (es : List DictEntry) (tab : List (Str × PyData)), dctB KC.K n es tab = true → es.any (·.refKey) = false ∧ (∀ d, tab.lookup z = some d → ∃ e, es.find? (·.key.isStr z) = some e ∧ Dat e.val d) ∧ (tab.lookup z = none → es.find? (·.key.isStr z) = none)
  | [], [], _ => ⟨rfl, fun d h => by simp at h, fun _ => rfl⟩
  | [], _ :: _, h => by unfold dctB at h; cases h
  | _ :: _, [], h => by unfold dctB at h; cases h
  | e :: es, (k, d) :: r, h => by
    unfold dctB at h
    obtain ⟨h1, h2⟩ := Bool.and_eq_true_iff.mp h
    obtain ⟨h3, h4⟩ := Bool.and_eq_true_iff.mp h2
    obtain ⟨g1, g2, g3⟩ := dctB_find (z := z) _ _ h4
    obtain ⟨hash, key, val⟩ := e
    have hk : ∃ t, key = .str k t := by
      dsimp only at h1
      split at h1
      · rename_i x t
        have e := of_decide_eq_true h1
        subst e
        exact ⟨_, rfl⟩
      · cases h1
    obtain ⟨t, rfl⟩ := hk
    have hs : (Value.str k t).isStr z = decide (k = z) := by
      show (k == z) = _
      by_cases q : k = z
      · subst q; simp
      · simp [q]
    refine ⟨?_, fun d' hd => ?_, fun hd => ?_⟩
    · rw [List.any_cons, g1]; rfl
    · by_cases q : k = z
      · subst q
        rw [List.lookup_cons_self] at hd
        cases hd
        exact ⟨_, by rw [List.find?_cons]; simp [hs], datB_dat h3⟩
      · have q' : (z == k) = false := by simp [Ne.symm q]
        rw [List.lookup_cons, q'] at hd
        obtain ⟨e', he, hd'⟩ := g2 d' hd
        exact ⟨e', by rw [List.find?_cons]; simp [hs, q, he], hd'⟩
    · by_cases q : k = z
      · subst q
        rw [List.lookup_cons_self] at hd
        cases hd
      · have q' : (z == k) = false := by simp [Ne.symm q]
        rw [List.lookup_cons, q'] at hd
        rw [List.find?_cons]
        simp [hs, q, g3 hd]
theorem kd_of {mg : Str → Option Value} {w : World} {x : Str} {a : Addr} {es : Array DictEntry} {n m : Nat} {tab : List (Str × PyData)} (hm : mg x = some (.ref a)) (D : KDict KC.K w a es n) (h : dictB KC.K m a tab = true) : KD mg KC.K w x tab := by
  have lk := D.at_
  unfold dictB at h
  rw [lk] at h
  have h : dctB KC.K m es.toList tab = true := h
  have key : ∀ z, PySem.W.nsIn KC.K a z = (match es.toList.find? (·.key.isStr z) with
      | some e => some (some e.val)
      | none => if es.toList.any (·.refKey) then none else some none) := fun z => by
    unfold PySem.W.nsIn
    rw [D.at_]
    rfl
  refine ⟨a, es, n, hm, D, fun z d hd => ?_, fun z hd => ?_⟩
  · obtain ⟨_, g2, _⟩ := dctB_find (z := z) _ _ h
    obtain ⟨e, he, hd'⟩ := g2 d hd
    exact ⟨e.val, by rw [key, he], hd'⟩
  · obtain ⟨g1, _, g3⟩ := dctB_find (z := z) _ _ h
    rw [key, g3 hd, g1]
    rfl
section
variable {E : ExtK} {X : Cx} [KX X] {a b c e o : Expr} {es : List Expr} {p pos : Pos} {x : Str} {tab : List (Str × PyData)}
/-- a module's constant -/
theorem sp_gdat {u : Value} {d : PyData} (hg : Gl X x) (hm : X.mg x = some u) (hd : Dat u d) (hdb : (x == ("__debug__" : Str)) = false := by decide) : SP E X (.Name x pos) true (evC d) := by
  obtain ⟨v, r, h⟩ := hd
  exact sp_const (pe_glob hg hm r hdb) h
def evInD (t : Bool) (tab : List (Str × PyData)) (ev : EvB) : EvT := fun env => match ev env with
  | some (.str z, env') => some (t == (tab.lookup z).isSome, env')
  | _ => none
theorem KD.some {X : Cx} {z : Str} (D : KD X.mg X.K X.w x tab) : ∃ a es n, X.mg x = some (.ref a) ∧ KDict X.K X.w a es n ∧ ∃ r, PySem.W.nsIn X.K a z = some r ∧ r.isSome = (tab.lookup z).isSome := by
  obtain ⟨a, es, n, hm, D, h1, h2⟩ := D.ex
  refine ⟨a, es, n, hm, D, ?_⟩
  cases q : tab.lookup z with
  | none => exact ⟨none, h2 z q, rfl⟩
  | some d =>
    obtain ⟨u, hu, _⟩ := h1 z d q
    exact ⟨_, hu, rfl⟩
theorem st_inD {q st : Bool} {ev : EvB} (hg : Gl X x) (D : KD X.mg X.K X.w x tab) (h : SB E X e q st ev) (hdb : (x == ("__debug__" : Str)) = false := by decide) (hm : behindInMarks .In (.Name x p) = false := by rfl) : ST E X (.Compare e [.In] [.Name x p] pos) q (evInD true tab ev) := ⟨fun fr => by
  obtain ⟨a, es, n, hmx, KDx, h1, h2⟩ := D.ex
  refine (pt_cmpR (op_in_kd KDx) (h.pe fr) (pe_glob (v := .ref a) hg hmx rfl hdb) hm).weak fun σ H Q ⟨F, ow, env, b, env', R, ee, k⟩ => ?_
  unfold evInD at ee
  split at ee
  · rename_i z e1 g1
    cases ee
    refine ⟨F, ow, env, _, _, R, g1, fun v F' H' ow' R' g hq rv => ?_⟩
    obtain ⟨a', es', n', hm', KD', r, hr, hs⟩ := D.some (z := z)
    rw [hmx] at hm'; cases hm'
    refine ⟨z, r, rv.l.str, rfl, hr, _, rfl, ?_⟩
    have := k F' H' ow' R' g hq
    rw [← hs] at this
    cases hr2 : r.isSome <;> rw [hr2] at this <;> exact this
  · cases ee⟩
theorem st_ninD {q st : Bool} {ev : EvB} (hg : Gl X x) (D : KD X.mg X.K X.w x tab) (h : SB E X e q st ev) (hdb : (x == ("__debug__" : Str)) = false := by decide) (hm : behindInMarks .NotIn (.Name x p) = false := by rfl) : ST E X (.Compare e [.NotIn] [.Name x p] pos) q (evInD false tab ev) := ⟨fun fr => by
  obtain ⟨a, es, n, hmx, KDx, h1, h2⟩ := D.ex
  refine (pt_cmpR (op_notIn_kd KDx) (h.pe fr) (pe_glob (v := .ref a) hg hmx rfl hdb) hm).weak fun σ H Q ⟨F, ow, env, b, env', R, ee, k⟩ => ?_
  unfold evInD at ee
  split at ee
  · rename_i z e1 g1
    cases ee
    refine ⟨F, ow, env, _, _, R, g1, fun v F' H' ow' R' g hq rv => ?_⟩
    obtain ⟨a', es', n', hm', KD', r, hr, hs⟩ := D.some (z := z)
    rw [hmx] at hm'; cases hm'
    refine ⟨z, r, rv.l.str, rfl, hr, _, rfl, ?_⟩
    have := k F' H' ow' R' g hq
    rw [← hs] at this
    cases hr2 : r.isSome <;> rw [hr2] at this <;> exact this
  · cases ee⟩
/-- D[e] -/
def evItD (tab : List (Str × PyData)) (ev : EvB) : EvB := fun env => match ev env with
  | some (.str z, env') => (tab.lookup z).map fun d => (d, env')
  | _ => none
theorem sp_itD {q st : Bool} {ev : EvB} (hg : Gl X x) (D : KD X.mg X.K X.w x tab) (h : SB E X e q st ev) (hs : NoSl e) (hdb : (x == ("__debug__" : Str)) = false := by decide) : SP E X (.Subscript (.Name x p) e pos) q (evItD tab ev) := ⟨fun fr => by
  obtain ⟨a, es, n, hmx, KDx, h1, h2⟩ := D.ex
  refine ⟨fun pins s σ H Q I ⟨F, ow, env, d, env', R, ee, k⟩ => ?_⟩
  unfold evItD at ee
  split at ee
  · rename_i z e1 g1
    obtain ⟨d', hd, ee⟩ := Option.map_eq_some_iff.mp ee
    cases ee
    refine subD_of PySem.F.slot_dict_getitem.lookup hs (thn ((pe_glob (v := .ref a) hg hmx rfl hdb).run pins s σ H _ I (show tC (.ref a) σ H fun x H1 => x = .ref a ∧ H1 = H from ⟨rfl, rfl⟩)) fun u s1 ⟨x1, H1, I1, rx, ex, eH⟩ => ?_)
    subst ex eH
    obtain rfl : u = Value.ref a := rx
    refine thn ((h.pe fr).run pins s1 σ _ (fun v H' => v = .str z ∧ ∀ w, (∀ F, Rp F w d) → Q w H') I1 ⟨F, ow, env, _, _, R, g1, fun v F' H' ow' R' g hq rv => ⟨rv.l.str, fun w r => k w F' H' ow' R' g hq (r _)⟩⟩) fun iv s2 ⟨y, H2, I2, ry, ey, kk⟩ => ?_
    subst ey
    obtain ⟨u, hu, v0, r0, hr⟩ := h1 z d hd
    exact ⟨kd_type KDx I2, op_item_kd KDx pins s2 σ H2 (.ref a) (.str z) (.ref a) iv Q I2 rfl ry ⟨z, u, v0, rfl, rfl, hu, r0, kk v0 hr⟩⟩
  · cases ee⟩
/-! ### methods: the receiver's type by a fact of its value -/
/-- facts that tell a builtin type -/
def TyF (X : Cx) (T : String) (P : V → Hp → Prop) : Prop := ∀ (pins : List (Addr × Obj)) (s : Shared) (σ : L2.St) (H : Hp) (x : V) (v : Value), Inv X pins σ H s → RelV x v → P x H → s.TypeIs v T ∧ ∀ a, v = .ref a → ∃ ob, s.heap.get? a = some ob ∧ ob.dict = none
def tBMP (P : V → Hp → Prop) (r : V → List V → Hp → VK → Prop) (to : TE) (t : TA) : TE := fun σ H Q => to σ H fun x H1 => P x H1 ∧ t σ H1 fun xs H2 => r x xs H2 Q
theorem pe_bmP {name : Str} {T id : String} {apos cpos : Pos} {P : V → Hp → Prop} {r : V → List V → Hp → VK → Prop} {to : TE} {t : TA} (tf : TyF X T P) (pa : PlainAttrs T) (slot : PySem.Slot T name id) (hty : typeOf (.builtin id) = pure (.type "method_descriptor")) (hm : MtR X id r) (ho : PE X o to) (ha : PA X (e :: es) t)
    (hbase : attributeBase o name X.env (eval o X.env) = eval o X.env := by rfl)
    (hfew : ((backTo cpos (starEach (e :: es) X.env)).all (fun x => !x.1) && (backToKw cpos (keywordEach [] X.env)).all (fun x => x.1.isSome)
      && decide ((e :: es).length + ([] : List Keyword).length + (if ([] : List Keyword).isEmpty then 0 else 1) < 30)) = true := by rfl)
    (hline : (apos.endLine == cpos.line) = true := by rfl) (hs : starEach (e :: es) X.env = (false, eval e X.env) :: starEach es X.env := by rfl) (hplain : (backTo cpos (starEach es X.env)).any (·.1) = false := by rfl) :
    PE X (.Call (.Attribute o name apos) (e :: es) [] cpos) (tBMP P r to t) := by
  refine ⟨fun pins s σ H Q I h => ?_⟩
  refine wpAny_Call_method_late hbase hfew hline rfl (thn (ho.run pins s σ H _ I h) fun v s1 ⟨x, H1, I1, r1, ty, q1⟩ => ?_)
  obtain ⟨h1, h2⟩ := tf pins s1 σ H1 x v I1 r1 ty
  refine ⟨T, id, pa, slot, hty, h1, h2, ?_⟩
  have hA := ha.run cpos pins s1 σ H1 _ I1 q1
  rw [hs] at hA ⊢
  refine Calls.callWith_builtin (by show (false || (backTo cpos (starEach es X.env)).any (·.1)) = false; rw [hplain] <;> rfl) (Calls.evalArgs_plain ?_)
  exact thn hA fun us s2 ⟨vs, H2, I2, r2, q2⟩ => hm pins s2 σ H2 x vs v us Q I2 r1 r2 q2
/-- D.get(e) -/
def evGetD (tab : List (Str × PyData)) (a : EvA) : EvB := fun env => match a env with
  | some ([.str z], env') => some ((tab.lookup z).getD .none, env')
  | some ([.str z, d], env') => some ((tab.lookup z).getD d, env')
  | _ => none
theorem mt_getKD {a : Addr} {es : Array DictEntry} {n : Nat} (D : KDict X.K X.w a es n) : MtR X "dict.get" (fun x xs H Q => ∃ (z : Str) (r : Option Value), x = .ref a ∧ (xs = [.str z] ∨ ∃ d, xs = [.str z, d]) ∧ PySem.W.nsIn X.K a z = some r ∧ (∀ u, r = some u → ∃ v, RelV v u ∧ Q v H) ∧ (r = none → (xs = [.str z] → Q .non H) ∧ ∀ d, xs = [.str z, d] → Q d H)) := by
  intro pins s σ H x xs v us Q I rx rs h
  obtain ⟨z, r, rfl, hx, e, q1, q2⟩ := h
  cases rx
  have mo : s.heap.MapOf (strKind X.prog X.w) a (fun k => findBy Value.isStrOf es k) := PySem.W.mapOf_K (prog := X.prog) (w := X.w) I.kIn D.at_ D.lit
  have fe := PySem.W.find_K D.at_ e
  rcases hx with rfl | ⟨d, rfl⟩
  · obtain ⟨u, rfl, r1⟩ := rs.one
    obtain ⟨t, rfl⟩ := r1
    refine call_meetsIn PySem.F.slot_dict_get mo.typeIs PySem.F.entry_dict_get (PySem.F.args_dict_get_2 _ _) (meets_dict_get (strKind X.prog X.w) a (strKind_is X.prog X.w z t) D.low) ⟨_, mo, ?_⟩
    show EP X pins σ Q ((findBy Value.isStrOf es z).getD .none) _
    rw [fe]
    cases r with
    | none => exact ⟨.non, H, I.tok _, rfl, (q2 rfl).1 rfl⟩
    | some u =>
      obtain ⟨v, rv, q⟩ := q1 u rfl
      exact ⟨v, H, I.tok _, rv, q⟩
  · obtain ⟨u, u2, rfl, r1, r2⟩ := rs.two
    obtain ⟨t, rfl⟩ := r1
    refine call_meetsIn PySem.F.slot_dict_get mo.typeIs PySem.F.entry_dict_get (PySem.F.args_dict_get_3 _ _ _) (meets_dict_get_default (strKind X.prog X.w) a (strKind_is X.prog X.w z t) D.low u2) ⟨_, mo, ?_⟩
    show EP X pins σ Q ((findBy Value.isStrOf es z).getD u2) _
    rw [fe]
    cases r with
    | none => exact ⟨d, H, I.tok _, r2, (q2 rfl).2 d rfl⟩
    | some u =>
      obtain ⟨v, rv, q⟩ := q1 u rfl
      exact ⟨v, H, I.tok _, rv, q⟩
theorem sp_getD {q : Bool} {ev : EvA} {apos : Pos} (hg : Gl X x) (D : KD X.mg X.K X.w x tab) (ha : SA E X (e :: es) q ev) (hdb : (x == ("__debug__" : Str)) = false := by decide)
    (hbase : attributeBase (.Name x p) "get" X.env (eval (.Name x p) X.env) = eval (.Name x p) X.env := by rfl)
    (hfew : ((backTo pos (starEach (e :: es) X.env)).all (fun x => !x.1) && (backToKw pos (keywordEach [] X.env)).all (fun x => x.1.isSome)
      && decide ((e :: es).length + ([] : List Keyword).length + (if ([] : List Keyword).isEmpty then 0 else 1) < 30)) = true := by rfl)
    (hline : (apos.endLine == pos.line) = true := by rfl) (hs : starEach (e :: es) X.env = (false, eval e X.env) :: starEach es X.env := by rfl) (hplain : (backTo pos (starEach es X.env)).any (·.1) = false := by rfl) :
    SP E X (.Call (.Attribute (.Name x p) "get" apos) (e :: es) [] pos) q (evGetD tab ev) := ⟨fun fr => by
  obtain ⟨a, des, n, hmx, KDx, h1, h2⟩ := D.ex
  have tf : TyF X "dict" (fun x _ => x = .ref a) := fun pins s σ H x v I r ex => by
    subst ex
    cases r
    refine ⟨kd_type KDx I, fun b e => ?_⟩
    cases e
    exact ⟨_, I.kIn _ _ KDx.at_, rfl⟩
  refine (pe_bmP tf PySem.F.plainAttrs_dict PySem.F.slot_dict_get rfl (mt_getKD KDx) (pe_glob (v := .ref a) hg hmx rfl hdb) (ha.pa fr) hbase hfew hline hs hplain).weak fun σ H Q ⟨F, ow, env, d, env', R, ee, k⟩ => ?_
  have go : ∀ (z : Str) (as : List PyData) (e1 : SEnv), ev env = some (as, e1) → (∀ vs F' H' ow', Rel E fr F' H' ow' e1 σ → Grow F H ow F' H' ow' → (q = true → Ex H H') → RpA F' vs as →
      ∃ (z : Str) (r : Option Value), V.ref a = .ref a ∧ (vs = [.str z] ∨ ∃ d, vs = [.str z, d]) ∧ PySem.W.nsIn X.K a z = some r ∧ (∀ u, r = some u → ∃ v, RelV v u ∧ Q v H') ∧ (r = none → (vs = [.str z] → Q .non H') ∧ ∀ d, vs = [.str z, d] → Q d H')) →
      tBMP (fun x _ => x = .ref a) (fun x xs H Q => ∃ (z : Str) (r : Option Value), x = .ref a ∧ (xs = [.str z] ∨ ∃ d, xs = [.str z, d]) ∧ PySem.W.nsIn X.K a z = some r ∧ (∀ u, r = some u → ∃ v, RelV v u ∧ Q v H) ∧ (r = none → (xs = [.str z] → Q .non H) ∧ ∀ d, xs = [.str z, d] → Q d H)) (tC (.ref a)) (TAp E fr q ev) σ H Q := fun z as e1 g1 kk => ⟨rfl, F, ow, env, as, e1, R, g1, fun vs F' H' ow' R' g hq ra => kk vs F' H' ow' R' g hq ra⟩
  unfold evGetD at ee
  split at ee
  · rename_i z e1 g1
    cases ee
    refine go z _ _ g1 fun vs F' H' ow' R' g hq ra => ?_
    cases ra with
    | cons r1 t =>
      cases t
      cases r1
      cases q : tab.lookup z with
      | none => exact ⟨z, none, rfl, .inl rfl, h2 z q, (fun u z => nomatch z), fun _ => ⟨fun _ => k _ F' H' ow' R' g hq (by rw [q]; exact .non), fun d z => by cases z⟩⟩
      | some d =>
        obtain ⟨u, hu, v0, r0, hr⟩ := h1 z d q
        exact ⟨z, some u, rfl, .inl rfl, hu, fun u' e => by cases e; exact ⟨v0, r0, k _ F' H' ow' R' g hq (by rw [q]; exact hr _)⟩, fun z => nomatch z⟩
  · rename_i z d0 e1 g1
    cases ee
    refine go z _ _ g1 fun vs F' H' ow' R' g hq ra => ?_
    cases ra with
    | cons r1 t =>
      cases t with
      | cons r2 t =>
        cases t
        cases r1
        cases q : tab.lookup z with
        | none => exact ⟨z, none, rfl, .inr ⟨_, rfl⟩, h2 z q, (fun u z => nomatch z), fun _ => ⟨(fun z => by cases z), fun d z => by cases z; exact k _ F' H' ow' R' g hq (by rw [q]; exact r2)⟩⟩
        | some d =>
          obtain ⟨u, hu, v0, r0, hr⟩ := h1 z d q
          exact ⟨z, some u, rfl, .inr ⟨_, rfl⟩, hu, fun u' e => by cases e; exact ⟨v0, r0, k _ F' H' ow' R' g hq (by rw [q]; exact hr _)⟩, fun z => nomatch z⟩
  · cases ee⟩
end
end IX

/-! text IX14 -/
set_option maxHeartbeats 1000000
namespace IX
open PySem PySem.Spec PyProof.Rows L2
variable [KC]
/-! ### several results side by side -/
inductive ResL (E : ExtK) (fr : Fra) (H0 : Hp) (ow0 : Ow) (F H : Hp) (ow : Ow) : (Addr → Prop) → List V → List Slot → Prop
  | nil {U : Addr → Prop} : ResL E fr H0 ow0 F H ow U [] []
  | cons {U S : Addr → Prop} {v : V} {r : Slot} {vs : List V} {rs : List Slot} : r.par = false → r ≠ .und → (∀ a, S a → ow a = none ∧ F a = none ∧ fr.B a = none ∧ H a ≠ none ∧ ¬ U a ∧ (H0 a ≠ none → ow0 a ≠ none)) → Sl E F H S v r →
      ResL E fr H0 ow0 F H ow (fun a => U a ∨ S a) vs rs → ResL E fr H0 ow0 F H ow U (v :: vs) (r :: rs)
section
variable {E : ExtK} {fr : Fra} {F H F' H' F0 H0 H1 : Hp} {ow ow' ow0 ow1 : Ow} {env env' : SEnv} {σ : L2.St} {U U' : Addr → Prop} {v : V} {vs : List V} {r : Slot} {rs : List Slot}
theorem ResL.weakU (h : ResL E fr H0 ow0 F H ow U vs rs) : ∀ {U'}, (∀ a, U' a → U a) → ResL E fr H0 ow0 F H ow U' vs rs := by
  induction h with
  | nil => exact fun _ => .nil
  | cons p n s sl t ih => exact fun w => .cons p n (fun a sa => by
      obtain ⟨h1, h2, h3, h4, h5, h6⟩ := s a sa
      exact ⟨h1, h2, h3, h4, fun z => h5 (w a z), h6⟩) sl (ih fun a z => z.elim (fun z => .inl (w a z)) .inr)
theorem ResL.start (h : ResL E fr H1 ow1 F H ow U vs rs) (g : Grow F0 H0 ow0 F' H1 ow1) : ResL E fr H0 ow0 F H ow U vs rs := by
  induction h with
  | nil => exact .nil
  | cons p n s sl t ih => exact .cons p n (fun a sa => by
      obtain ⟨h1, h2, h3, h4, h5, h6⟩ := s a sa
      exact ⟨h1, h2, h3, h4, h5, fun z z' => h6 (g.dom a z) (g.fz a z z').2⟩) sl ih
/-- what is known not to be among them -/
theorem ResL.avoid (h : ResL E fr H1 ow1 F H ow U vs rs) : ∀ {T : Addr → Prop}, (∀ a, T a → H1 a ≠ none ∧ ow1 a = none) → ResL E fr H1 ow1 F H ow (fun a => U a ∨ T a) vs rs := by
  induction h with
  | nil => exact fun _ => .nil
  | cons p n s sl t ih => exact fun {T} w => .cons p n (fun a sa => by
      obtain ⟨h1, h2, h3, h4, h5, h6⟩ := s a sa
      exact ⟨h1, h2, h3, h4, fun z => z.elim h5 fun z => h6 (w a z).1 (w a z).2, h6⟩) sl ((ih w).weakU fun a z => by
        rcases z with (z | z) | z
        · exact .inl (.inl z)
        · exact .inr z
        · exact .inl (.inr z))
def TAs (E : ExtK) (fr : Fra) (q : Bool) (ev : SEnv → Option (List Slot × SEnv)) : TA := fun σ H Q => ∃ F ow env rs env', Rel E fr F H ow env σ ∧ ev env = some (rs, env') ∧
  ∀ vs F' H' ow', Rel E fr F' H' ow' env' σ → Grow F H ow F' H' ow' → (q = true → Ex H H') → ResL E fr H ow F' H' ow' (fun _ => False) vs rs → Q vs H'
abbrev EvSL := SEnv → Option (List Slot × SEnv)
structure SAs (E : ExtK) (X : Cx) (es : List Expr) (q : Bool) (ev : EvSL) : Prop where
  pa : ∀ fr, PA X es (TAs E fr q ev)
def slN : EvSL := fun env => some ([], env)
def slC (a : EvE) (b : EvSL) : EvSL := fun env => (a env).bind fun p => (b p.2).map fun q => (p.1 :: q.1, q.2)
theorem ResL.mono_ow (h : ResL E fr H0 ow0 F H ow U vs rs) : (∀ a, ow a = none → ¬ U a → ow' a = none) → ResL E fr H0 ow0 F H ow' U vs rs := by
  induction h with
  | nil => exact fun _ => .nil
  | cons p n s sl t ih => exact fun w => .cons p n (fun a sa => by
      obtain ⟨h1, h2, h3, h4, h5, h6⟩ := s a sa
      exact ⟨w a h1 h5, h2, h3, h4, h5, h6⟩) sl (ih fun a z z' => w a z fun y => z' (.inl y))
/-- slots take several results -/
def setSl : List Nat → List Slot → SEnv → SEnv
  | i :: is, r :: rs, env => setSl is rs (env.set i r)
  | _, _, env => env
def setV : List Nat → List V → L2.St → L2.St
  | i :: is, v :: vs, σ => setV is vs (σ.set i (some v))
  | _, _, σ => σ
def npAll (env : SEnv) (is : List Nat) : Bool := is.all fun i => match env[i]? with
  | some s => !s.par
  | none => false
theorem npAll_set {i : Nat} {is : List Nat} (h : npAll env is = true) (hr : r.par = false) : npAll (env.set i r) is = true := by
  unfold npAll at h ⊢
  rw [List.all_eq_true] at h ⊢
  intro j hj
  have hh := h j hj
  by_cases z : i = j
  · subst z
    cases e : env[i]? with
    | none => rw [e] at hh; cases hh
    | some s => rw [set_get_some e]; simp [hr]
  · rw [List.getElem?_set_ne z]; exact hh
theorem ResL.stores : ∀ {vs : List V} {rs : List Slot} {is : List Nat} {ow : Ow} {env : SEnv} {σ : L2.St} {U : Addr → Prop}, Rel E fr F H ow env σ → ResL E fr H0 ow0 F H ow U vs rs → is.length = rs.length → npAll env is = true →
    ∃ ow', Rel E fr F H ow' (setSl is rs env) (setV is vs σ)
  | _, _, [], ow, env, σ, U, R, .nil, _, _ => ⟨ow, R⟩
  | _, _, _ :: _, _, _, _, _, _, .nil, hl, _ => by cases hl
  | _, _, [], _, _, _, _, _, .cons .., hl, _ => by cases hl
  | _, _, i :: is, ow, env, σ, U, R, .cons (r := r) (S := S) p n s sl t, hl, hn => by
    have hn0 := hn
    unfold npAll at hn
    rw [List.all_cons] at hn
    obtain ⟨n1, n2⟩ := Bool.and_eq_true_iff.mp hn
    cases e : env[i]? with
    | none => rw [e] at n1; cases n1
    | some s0 =>
      rw [e] at n1
      obtain ⟨ow1, R1, k⟩ := R.store' e (by simpa using n1) p (fun a sa => ⟨(s a sa).1, (s a sa).2.1, (s a sa).2.2.1, (s a sa).2.2.2.1⟩) sl
      exact ResL.stores (is := is) R1 (t.mono_ow fun a z z' => k a z fun y => z' (.inr y)) (by simpa using hl) (npAll_set n2 p)
end
section
variable {E : ExtK} {X : Cx} [KX X] {e : Expr} {es : List Expr} {pos : Pos}
theorem sas_nil : SAs E X [] true slN := ⟨fun fr => pa_nil.weak fun σ H Q ⟨F, ow, env, rs, env', R, ee, k⟩ => by
  cases ee
  exact k [] F H ow R Grow.refl (fun _ => Ex.refl _) .nil⟩
theorem ResL.back {fr : Fra} {F H F' H' H0 : Hp} {ow ow' ow0 : Ow} {v : V} {r : Slot} {vs : List V} {rs : List Slot} (h : Res E fr H0 ow0 F H ow v r) (g : Grow F H ow F' H' ow') (g0 : ∃ F0, Grow F0 H0 ow0 F H ow) (t : ResL E fr H ow F' H' ow' (fun _ => False) vs rs) : ResL E fr H0 ow0 F' H' ow' (fun _ => False) (v :: vs) (r :: rs) := by
  obtain ⟨F0, g0⟩ := g0
  have h' := h.mono g
  obtain ⟨h1, h2, S, hS, hs⟩ := h
  refine .cons (S := S) h1 h2 (fun a sa => ?_) (hs.mono E g.f (fun _ z => z) fun a sa => ?_) ((t.avoid (T := S) fun a sa => ⟨(hS a sa).2.2.2.1, (hS a sa).1⟩).start g0)
  · obtain ⟨n, f, b, hh, nw⟩ := hS a sa
    obtain ⟨e, n'⟩ := g.fz a hh n
    exact ⟨n', e.trans f, b, g.dom a hh, fun z => z, nw⟩
  · obtain ⟨n, f, b, hh, nw⟩ := hS a sa
    obtain ⟨o, ho⟩ := some_of_ne hh
    rw [ho]
    exact g.h a o ho n
theorem sas_cons {qa qb : Bool} {a : EvE} {b : EvSL} (ha : SE E X e qa a) (hb : SAs E X es qb b) (hs : starEach (e :: es) X.env = (false, eval e X.env) :: starEach es X.env := by rfl) : SAs E X (e :: es) (qa && qb) (slC a b) := ⟨fun fr => (pa_cons (ha.pe fr) (hb.pa fr) hs).weak fun σ H Q ⟨F, ow, env, rs, env', R, ee, k⟩ => by
  obtain ⟨⟨r, e1⟩, h1, h⟩ := bind2 ee
  obtain ⟨⟨rs', e2⟩, h2, h⟩ := Option.map_eq_some_iff.mp h
  cases h
  refine ⟨F, ow, env, r, e1, R, h1, fun v F1 H1 ow1 R1 g1 q1 r1 => ⟨F1, ow1, e1, rs', e2, R1, h2, fun vs F2 H2 ow2 R2 g2 q2 r2 => ?_⟩⟩
  exact k (v :: vs) F2 H2 ow2 R2 (g1.tr g2) (fun z => (q1 (and1 z)).tr (q2 (and2 z))) (ResL.back r1 g2 ⟨F, g1⟩ r2)⟩
def xPar (is : List Nat) (a : EvSL) : EvS := fun env => (a env).bind fun p => if npAll p.2 is = true ∧ is.length = p.1.length then some (.nxt (setSl is p.1 p.2)) else none
theorem ResL.len {fr : Fra} {F H H0 : Hp} {ow ow0 : Ow} {U : Addr → Prop} {vs : List V} {rs : List Slot} (h : ResL E fr H0 ow0 F H ow U vs rs) : vs.length = rs.length := by
  induction h with
  | nil => rfl
  | cons p n s sl t ih => rw [List.length_cons, List.length_cons, ih]
theorem ss_par {i j : Nat} {x y : Str} {a b : Expr} {px py pt : Pos} {kt k2 pt2} {q : Bool} {ev : EvSL} (hc : X.calm = true) (hN : X.N.Nodup) (hi : X.N[i]? = some x) (hj : X.N[j]? = some y) (hij : i ≠ j)
    (hx : X.env.scope.names.lookup x = some .local) (hy : X.env.scope.names.lookup y = some .local) (ha : SAs E X [a, b] q ev)
    (hw : swappedStores [.Tuple [.Name x px, .Name y py] kt pt] (.Tuple [a, b] k2 pt2) X.env = pure (some [x, y]))
    (hs : swapsWithSole [.Tuple [.Name x px, .Name y py] kt pt] (.Tuple [a, b] k2 pt2) pos.line X.env = pure false := by rfl) :
    SS E X (.Assign [.Tuple [.Name x px, .Name y py] kt pt] (.Tuple [a, b] k2 pt2) pos) (xPar [i, j] ev) := ⟨fun fr => (ps_par hc hN hi hj hij hx hy (ha.pa fr) hw hs).weak fun D σ H ⟨F, ow, env, o, R, ee, k⟩ => by
  obtain ⟨⟨rs, e1⟩, h1, h⟩ := bind2 ee
  have h : (if npAll e1 [i, j] = true ∧ 2 = rs.length then some (Out.nxt (setSl [i, j] rs e1)) else none) = some o := h
  split at h
  · rename_i z
    cases h
    refine ⟨F, ow, env, rs, e1, R, h1, fun vs F' H' ow' R' g hq rl => ?_⟩
    obtain ⟨ow2, R2⟩ := ResL.stores R' rl (is := [i, j]) z.2 z.1
    have l := rl.len
    rw [← z.2] at l
    match vs, l, R2 with
    | [v, w], _, R2 => exact ⟨v, w, rfl, k F' H' ow2 _ R2 g.f⟩
  · cases h⟩
theorem ss_par3 {i j l : Nat} {x y z : Str} {a b c : Expr} {px py pz pt : Pos} {kt k2 pt2} {q : Bool} {ev : EvSL} (hc : X.calm = true) (hN : X.N.Nodup) (hi : X.N[i]? = some x) (hj : X.N[j]? = some y) (hl : X.N[l]? = some z) (hij : i ≠ j) (hil : i ≠ l) (hjl : j ≠ l)
    (hx : X.env.scope.names.lookup x = some .local) (hy : X.env.scope.names.lookup y = some .local) (hz : X.env.scope.names.lookup z = some .local) (ha : SAs E X [a, b, c] q ev)
    (hw : swappedStores [.Tuple [.Name x px, .Name y py, .Name z pz] kt pt] (.Tuple [a, b, c] k2 pt2) X.env = pure (some [x, y, z]))
    (hs : swapsWithSole [.Tuple [.Name x px, .Name y py, .Name z pz] kt pt] (.Tuple [a, b, c] k2 pt2) pos.line X.env = pure false := by rfl) :
    SS E X (.Assign [.Tuple [.Name x px, .Name y py, .Name z pz] kt pt] (.Tuple [a, b, c] k2 pt2) pos) (xPar [i, j, l] ev) := ⟨fun fr => (ps_par3 hc hN hi hj hl hij hil hjl hx hy hz (ha.pa fr) hw hs).weak fun D σ H ⟨F, ow, env, o, R, ee, k⟩ => by
  obtain ⟨⟨rs, e1⟩, h1, h⟩ := bind2 ee
  have h : (if npAll e1 [i, j, l] = true ∧ 3 = rs.length then some (Out.nxt (setSl [i, j, l] rs e1)) else none) = some o := h
  split at h
  · rename_i z
    cases h
    refine ⟨F, ow, env, rs, e1, R, h1, fun vs F' H' ow' R' g hq rl => ?_⟩
    obtain ⟨ow2, R2⟩ := ResL.stores R' rl (is := [i, j, l]) z.2 z.1
    have l := rl.len
    rw [← z.2] at l
    match vs, l, R2 with
    | [u, v, w], _, R2 => exact ⟨u, v, w, rfl, k F' H' ow2 _ R2 g.f⟩
  · cases h⟩
/-! ### more built-ins -/
def seqD : PyData → Option (List PyData)
  | .list ds => some ds
  | .tuple ds => some ds
  | _ => none
def cTup : List PyData → Option Slot
  | [.list ds] => some (.pur (.tuple ds))
  | [.tuple ds] => some (.pur (.tuple ds))
  | _ => none
theorem cv_tuple : CallV X (.type "tuple") cTup := .of call_tuple_of fun xs H Q F ds r ex hd hr k => by
  unfold cTup at hr
  split at hr
  · cases hr
    obtain ⟨v, rfl, h⟩ := hd.one
    obtain ⟨p, vs, rfl, hp, rp⟩ := h.lst ex
    exact ⟨p, vs, rfl, .inl ⟨SqL.of hp, fun l hl => k.newT ex rp hl⟩⟩
  · cases hr
    obtain ⟨v, rfl, h⟩ := hd.one
    obtain ⟨p, vs, rfl, hp, rp⟩ := h.tup
    exact ⟨p, vs, rfl, .inr ⟨hp.sq ex, k.data ex (.tup hp rp)⟩⟩
  · cases hr
/-- tuple.index(x) of texts -/
def strsD : List PyData → Option (List Str)
  | [] => some []
  | .str x :: ds => (strsD ds).map (x :: ·)
  | _ :: _ => none
theorem strsD_map : ∀ {ds : List PyData} {ns : List Str}, strsD ds = some ns → ds = ns.map PyData.str
  | [], ns, h => by cases h; rfl
  | .str i :: ds, ns, h => by
    obtain ⟨m, hm, e⟩ := Option.map_eq_some_iff.mp h
    subst e
    rw [List.map_cons, ← strsD_map hm]
  | .none :: _, _, h => by cases h
  | .bool _ :: _, _, h => by cases h
  | .int _ :: _, _, h => by cases h
  | .list _ :: _, _, h => by cases h
  | .tuple _ :: _, _, h => by cases h
  | .dict _ :: _, _, h => by cases h
theorem ne_before : ∀ (ns : List Str) (z : Str) (m : Nat), m < ns.idxOf z → ns[m]? ≠ some z
  | [], _, _, h => by simp
  | n :: ns, z, m, h => by
    rw [List.idxOf_cons] at h
    by_cases q : n = z
    · subst q; simp at h
    · have q' : (n == z) = false := by simpa using q
      rw [q'] at h
      cases m with
      | zero => intro e; simp at e; exact q e
      | succ m => intro e; exact ne_before ns z m (by simpa using h) (by simpa using e)
def mTIdx : PyData → List PyData → Option Slot
  | .tuple ds, [.str z] => (strsD ds).bind fun ns => if ns.idxOf z < ns.length then some (.pur (.int (ns.idxOf z : Nat))) else none
  | _, _ => none
theorem mv_tidx : MtV X "tuple.index" mTIdx := .of mt_tup_index fun x xs H Q F d ds r ex hd hds hr k => by
  unfold mTIdx at hr
  split at hr
  · rename_i ds0 z
    obtain ⟨ns, h1, hr⟩ := bind2 hr
    split at hr
    · rename_i hl
      cases hr
      obtain ⟨p, vs, rfl, hp, rp⟩ := hd.tup
      obtain ⟨v, rfl, hv⟩ := hds.one
      have e := hv.str
      subst e
      rw [strsD_map h1] at rp
      have e := RpA.of_strs rp
      subst e
      refine ⟨p, ns, z, ns.idxOf z, rfl, rfl, hp.sq ex, ?_, fun m hm he => ?_, k.data ex (.int _)⟩
      · rw [List.getElem?_eq_getElem hl, List.getElem_idxOf]
      · exact absurd he (ne_before ns z m hm)
    · cases hr
  · cases hr
def evTidx (evo eva : EvA) : EvE := fun env => (evTup evo env).bind fun p => (eva p.2).bind fun q => (mTIdx p.1 q.1).map fun r => (r, q.2)
/-- (e, ..).index(x) -/
theorem se_tidx {k : Nat} {tp apos cpos : Pos} {qo qa : Bool} {evo eva : EvA} (ho : SA E X es qo evo) (ha : SAB E X [e] qa eva) 
    (hbase : attributeBase (.Tuple es k tp) "index" X.env (eval (.Tuple es k tp) X.env) = eval (.Tuple es k tp) X.env := by rfl)
    (hfew : ((backTo cpos (starEach [e] X.env)).all (fun x => !x.1) && (backToKw cpos (keywordEach [] X.env)).all (fun x => x.1.isSome)
      && decide ([e].length + ([] : List Keyword).length + (if ([] : List Keyword).isEmpty then 0 else 1) < 30)) = true := by rfl)
    (hline : (apos.endLine == cpos.line) = true := by rfl) (hs : starEach [e] X.env = (false, eval e X.env) :: starEach [] X.env := by rfl) (hplain : (backTo cpos (starEach [] X.env)).any (·.1) = false := by rfl) :
    SE E X (.Call (.Attribute (.Tuple es k tp) "index" apos) [e] [] cpos) (qo && qa) (evTidx evo eva) := ⟨fun fr => by
  refine ⟨fun pins s σ H Q I ⟨F, ow, env, r, env', R, ee, kk⟩ => ?_⟩
  obtain ⟨⟨d, e1⟩, h1, ee⟩ := bind2 ee
  obtain ⟨⟨ds, e2⟩, h2, ee⟩ := bind2 ee
  obtain ⟨r', h3, ee⟩ := Option.map_eq_some_iff.mp ee
  cases ee
  obtain ⟨⟨is, e0⟩, h4, h1⟩ := bind2 h1
  have h1 : (if is.length ≤ sizeLine then some (PyData.tuple is, e0) else none) = some (d, e1) := h1
  split at h1
  · rename_i hz
    obtain ⟨rfl, rfl⟩ : PyData.tuple is = d ∧ e0 = e1 := by simpa using h1
    refine wpAny_Call_method_late hbase hfew hline rfl ?_
    refine wpAny_Tuple_spliced (thn ((ho.pa fr).run tp pins s σ H (fun xs H1 => RpL H1 H1 .non .none ∧ ∃ F1 ow1, Rel E fr F1 H1 ow1 e0 σ ∧ Grow F H ow F1 H1 ow1 ∧ (qo = true → Ex H H1) ∧ RpA F1 xs is) I ⟨F, ow, env, is, e0, R, h4, fun vs F' H' ow' R' g hq rr => ⟨.inl .non, F', ow', R', g, hq, rr⟩⟩) fun us s1 ⟨xs, H1, I1, rv, _, F1, ow1, R1, g1, q1, ra⟩ => ⟨by rw [← rv.length, ra.length]; exact hz, ?_⟩)
    have hf : H1 s1.heap.objs.size = none := I1.hok.fresh (Nat.le_refl _)
    have I2 : Inv X pins σ (upd H1 s1.heap.objs.size (.tup xs)) { s1 with heap := s1.heap.push { cls := .type "tuple", data := .seq us.toArray } } := I1.laid (t' := s1.toks) (fun b u e => Heap.get?_push_of_some _ e) (Nat.le_refl _) ⟨by rw [ra.length]; exact hz, us, rv, ⟨_, Heap.get?_push_size _ rfl, rfl, _, rfl⟩⟩
    have al := Alloc.new (o := .tup xs) R1.fh hf
    have R2 := R1.alloc al
    refine ⟨"tuple", "tuple.index", PySem.F.plainAttrs_tuple, PySem.F.slot_tuple_index, PySem.F.type_tuple_index, ⟨_, Heap.get?_push_size _ rfl, rfl⟩, fun a ea => ?_, ?_⟩
    · cases ea
      exact ⟨_, Heap.get?_push_size _ rfl, rfl⟩
    · have hA := (ha.pa fr).run cpos pins _ σ _ (fun ys H3 => rMtV mTIdx (.ref s1.heap.objs.size) ys H3 Q) I2 ⟨_, ow1, e0, ds, e2, R2, h2, fun ys F3 H3 ow3 R3 g3 q3 rb => ?_⟩
      · rw [hs] at hA ⊢
        refine Calls.callWith_builtin (by show (false || (backTo cpos (starEach [] X.env)).any (·.1)) = false; rw [hplain] <;> rfl) (Calls.evalArgs_plain ?_)
        exact thn hA fun us2 s3 ⟨ys, H3, I3, r3, q3⟩ => mv_tidx pins s3 σ H3 (.ref s1.heap.objs.size) ys _ us2 Q I3 rfl r3 q3
      · refine ⟨F3, .tuple is, ds, _, R3.fh, .inl (Rp.mono g3.f _ _ (.tup (.inl upd_same) (RpA.mono al.f _ _ ra))), rb, h3, out_of R3 (g1.tr ((al.grow R1).tr g3)) (fun z => (q1 (and1 z)).tr (al.h.tr (q3 (and2 z)))) kk⟩
  · cases h1⟩
/-! min, max, sum of sequences -/
def foldMin : List Int → Option Int
  | [] => none
  | n :: ns => some (ns.foldl min n)
def foldMax : List Int → Option Int
  | [] => none
  | n :: ns => some (ns.foldl max n)
def cMin1 : List PyData → Option Slot
  | [.tuple ds] => (intsD ds).bind fun ns => (foldMin ns).map fun m => .pur (.int m)
  | [.list ds] => (intsD ds).bind fun ns => (foldMin ns).map fun m => .pur (.int m)
  | _ => none
def cMax1 : List PyData → Option Slot
  | [.list ds] => (intsD ds).bind fun ns => (foldMax ns).map fun m => .pur (.int m)
  | _ => none
theorem foldMin_mem : ∀ (ns : List Int) (n m : Int), m ∈ n :: ns → (∀ y ∈ n :: ns, m ≤ y) → ns.foldl min n = m
  | [], n, m, h, k => by simp at h; exact h.symm
  | a :: ns, n, m, h, k => by
    rw [List.foldl_cons]
    have h1 := k n (by simp)
    have h2 := k a (by simp)
    have h3 : m = n ∨ m = a ∨ m ∈ ns := by simpa using h
    refine foldMin_mem ns (min n a) m ?_ fun y hy => ?_
    · rcases h3 with z | z | z
      · have : min n a = m := by omega
        rw [this]; simp
      · have : min n a = m := by omega
        rw [this]; simp
      · simp [z]
    · rcases List.mem_cons.mp hy with z | z
      · omega
      · exact k y (by simp [z])
theorem foldMax_mem : ∀ (ns : List Int) (n m : Int), m ∈ n :: ns → (∀ y ∈ n :: ns, y ≤ m) → ns.foldl max n = m
  | [], n, m, h, k => by simp at h; exact h.symm
  | a :: ns, n, m, h, k => by
    rw [List.foldl_cons]
    have h1 := k n (by simp)
    have h2 := k a (by simp)
    have h3 : m = n ∨ m = a ∨ m ∈ ns := by simpa using h
    refine foldMax_mem ns (max n a) m ?_ fun y hy => ?_
    · rcases h3 with z | z | z
      · have : max n a = m := by omega
        rw [this]; simp
      · have : max n a = m := by omega
        rw [this]; simp
      · simp [z]
    · rcases List.mem_cons.mp hy with z | z
      · omega
      · exact k y (by simp [z])
theorem cv_max1 (hc : X.calm = true) : CallV X (.builtin "max") cMax1 := .of (cr_max hc) fun xs H Q F ds r ex hd hr k => by
  unfold cMax1 at hr
  split at hr
  · obtain ⟨ns, h1, hr⟩ := bind2 hr
    obtain ⟨m, h2, hr⟩ := Option.map_eq_some_iff.mp hr
    subst hr
    obtain ⟨v, rfl, h⟩ := hd.one
    obtain ⟨p, vs, rfl, hp, rp⟩ := h.lst ex
    rw [intsD_map h1] at rp
    have e := RpA.of_ints rp
    subst e
    cases ns with
    | nil => cases h2
    | cons n ns =>
      cases h2
      exact ⟨p, _, rfl, SqL.of hp, by simp, fun m hm hk => by rw [foldMax_mem ns n m hm hk] at k; exact k.data ex (.int _)⟩
  · cases hr
theorem cr_minT (hc : X.calm = true) (hu : X.A.units + 64 < cLine) : CallR X (.builtin "min") (fun vs H Q => ∃ (a : Addr) (n : Int) (ns : List Int), vs = [.ref a] ∧ SqT X.K H a ((n :: ns).map V.int) ∧ Q (.int (ns.foldl min n)) H) := by
  intro pins s σ H vs us Q I r h
  obtain ⟨a, n, ns, rfl, hs, q⟩ := h
  obtain ⟨its, rv, hl, _⟩ := I.tuple hs
  rw [Vals.ref1 r]
  obtain ⟨as, rs⟩ := Dp.readsAll I ((n :: ns).map PyData.int) ((n :: ns).map V.int) its (by
    have : ∀ l : List Int, DpAll X.K H (l.map V.int) (l.map PyData.int) := fun l => by
      induction l with
      | nil => exact .nil
      | cons x l ih => exact .cons (.int x) ih
    exact this _) rv
  have alike : ∀ (l : List Int), PySem.W.AlikeAll (l.map PyData.int) := fun l => by
    refine ⟨fun x hx y hy => ?_, fun x hx => ?_⟩
    · obtain ⟨i, _, rfl⟩ := List.mem_map.mp hx
      obtain ⟨j, _, rfl⟩ := List.mem_map.mp hy
      simp [PySem.W.alike]
    · obtain ⟨i, _, rfl⟩ := List.mem_map.mp hx
      exact fun z => nomatch z
  have dep : ∀ (l : List Int), PyData.depthAll (l.map PyData.int) = 0 := fun l => by
    induction l with
    | nil => rfl
    | cons x l ih => rw [List.map_cons, PyData.depthAll, ih]; rfl
  refine PySem.W.min_tuple_data (x := .int n) (xs := ns.map .int) (I.ok.hd hc) hl rs (alike (n :: ns)) ?_ fun i v h' tk bs hi rd hk => ?_
  · have := dep (n :: ns)
    rw [List.map_cons] at this
    rw [this]; omega
  · rw [PySem.W.minD_ints] at rd
    cases rd
    exact ⟨.int _, H, I.kept hk, ⟨_, rfl⟩, q⟩
theorem cv_min1 (hc : X.calm = true) (hu : X.A.units + 64 < cLine) : CallV X (.builtin "min") cMin1 := by
  refine .of (r0 := fun vs H Q => rMin X.K vs H Q ∨ ∃ (a : Addr) (n : Int) (ns : List Int), vs = [.ref a] ∧ SqT X.K H a ((n :: ns).map V.int) ∧ Q (.int (ns.foldl min n)) H) (fun pins s σ H vs us Q I r h => h.elim (cr_min hc pins s σ H vs us Q I r) (cr_minT hc hu pins s σ H vs us Q I r)) fun xs H Q F ds r ex hd hr k => ?_
  unfold cMin1 at hr
  split at hr
  · obtain ⟨ns, h1, hr⟩ := bind2 hr
    obtain ⟨m, h2, hr⟩ := Option.map_eq_some_iff.mp hr
    subst hr
    obtain ⟨v, rfl, h⟩ := hd.one
    obtain ⟨p, vs, rfl, hp, rp⟩ := h.tup
    rw [intsD_map h1] at rp
    have e := RpA.of_ints rp
    subst e
    cases ns with
    | nil => cases h2
    | cons n ns =>
      cases h2
      exact .inr ⟨p, n, ns, rfl, hp.sq ex, k.data ex (.int _)⟩
  · obtain ⟨ns, h1, hr⟩ := bind2 hr
    obtain ⟨m, h2, hr⟩ := Option.map_eq_some_iff.mp hr
    subst hr
    obtain ⟨v, rfl, h⟩ := hd.one
    obtain ⟨p, vs, rfl, hp, rp⟩ := h.lst ex
    rw [intsD_map h1] at rp
    have e := RpA.of_ints rp
    subst e
    cases ns with
    | nil => cases h2
    | cons n ns =>
      cases h2
      exact .inl ⟨p, _, rfl, SqL.of hp, by simp, fun m hm hk => by rw [foldMin_mem ns n m hm hk] at k; exact k.data ex (.int _)⟩
  · cases hr
theorem preSum_take (ns : List Int) : ∀ n, n ≤ ns.length → preSum (fun i => ns.getD i 0) n = (ns.take n).sum
  | 0, _ => by simp [preSum]
  | n + 1, h => by
    have hx : ns[n]? = some ns[n] := List.getElem?_eq_getElem h
    rw [preSum, preSum_take ns n (by omega), List.take_succ, hx, List.sum_append, List.getD_eq_getElem?_getD, hx]
    simp
theorem cr_sumT (hc : X.calm = true) : CallR X (.builtin "sum") (fun vs H Q => ∃ (a : Addr) (ns : List Int), vs = [.ref a] ∧ SqT X.K H a (ns.map V.int) ∧ Q (.int ns.sum) H) := by
  intro pins s σ H vs us Q I r h
  obtain ⟨a, ns, rfl, hs, q⟩ := h
  obtain ⟨its, rv, hl, _⟩ := I.tuple hs
  rw [Vals.ref1 r]
  have hlt : a < s.heap.objs.size := by obtain ⟨_, e, _⟩ := hl; exact Heap.lt_size e
  have hlen : its.length = ns.length := by rw [← rv.length, List.length_map]
  refine call_sum_walkG (wpAny_pyIter_tuple hl ⟨s.heap.objs.size, _, _, its.toArray.size, _, _, (fun i => ns.getD i 0), rfl, Walks.tuple (A := X.A.in1) (I.ok.hd hc) _ a (Nat.ne_of_lt hlt) its.toArray, ⟨⟨_, Heap.get?_push_size _ rfl, rfl, rfl⟩, hl.push _⟩, fun b hb => ?_, fun i v hv => ?_, fun h' tk t' hk => ?_⟩)
  · show b < (s.heap.push _).objs.size
    rw [Heap.size_push]
    rcases List.mem_cons.mp hb with rfl | hb
    · exact Nat.lt_succ_self _
    · rcases List.mem_cons.mp hb with rfl | hb
      · exact Nat.lt_succ_of_lt hlt
      · cases hb
  · have hv' : its[i]? = some v := by simpa using hv
    obtain ⟨d, h1, h2⟩ : ∃ d, (ns.map V.int)[i]? = some d ∧ RelV d v := by
      have hi : i < (ns.map V.int).length := by rw [rv.length]; exact (List.getElem?_eq_some_iff.mp hv').1
      obtain ⟨u, h3, h4⟩ := rv.get (List.getElem?_eq_getElem hi)
      rw [hv'] at h3; cases h3
      exact ⟨_, List.getElem?_eq_getElem hi, h4⟩
    rw [List.getElem?_map] at h1
    obtain ⟨n, h5, rfl⟩ := Option.map_eq_some_iff.mp h1
    obtain ⟨t, rfl⟩ := h2
    exact ⟨t, by show _ = Value.int (ns.getD i 0) t; rw [List.getD_eq_getElem?_getD, h5]; rfl⟩
  · have e : preSum (fun i => ns.getD i 0) its.toArray.size = ns.sum := by
      rw [List.size_toArray, hlen, preSum_take ns _ (Nat.le_refl _), List.take_length]
    rw [e]
    refine ⟨.int _, H, I.kept (h' := h') (t' := tk) fun b o eb => hk b o (fun hm => ?_) (Heap.get?_push_of_some _ eb), ⟨_, rfl⟩, q⟩
    exact absurd (Heap.lt_size eb) ((List.mem_singleton.mp hm) ▸ Nat.lt_irrefl _)
def cSum2 : List PyData → Option Slot
  | [.list ds] => (intsD ds).map fun ns => .pur (.int ns.sum)
  | [.tuple ds] => (intsD ds).map fun ns => .pur (.int ns.sum)
  | _ => none
theorem cv_sum2 (hc : X.calm = true) : CallV X (.builtin "sum") cSum2 := by
  refine .of (r0 := fun vs H Q => rSum X.K vs H Q ∨ ∃ (a : Addr) (ns : List Int), vs = [.ref a] ∧ SqT X.K H a (ns.map V.int) ∧ Q (.int ns.sum) H) (fun pins s σ H vs us Q I r h => h.elim (cr_sum hc pins s σ H vs us Q I r) (cr_sumT hc pins s σ H vs us Q I r)) fun xs H Q F ds r ex hd hr k => ?_
  unfold cSum2 at hr
  split at hr
  · obtain ⟨ns, h1, e⟩ := Option.map_eq_some_iff.mp hr
    subst e
    obtain ⟨v, rfl, h⟩ := hd.one
    obtain ⟨p, vs, rfl, hp, rp⟩ := h.lst ex
    rw [intsD_map h1] at rp
    have e := RpA.of_ints rp
    subst e
    exact .inl ⟨p, ns, rfl, SqL.of hp, k.data ex (.int _)⟩
  · obtain ⟨ns, h1, e⟩ := Option.map_eq_some_iff.mp hr
    subst e
    obtain ⟨v, rfl, h⟩ := hd.one
    obtain ⟨p, vs, rfl, hp, rp⟩ := h.tup
    rw [intsD_map h1] at rp
    have e := RpA.of_ints rp
    subst e
    exact .inr ⟨p, ns, rfl, hp.sq ex, k.data ex (.int _)⟩
  · cases hr
/-- repr(True), repr(False) -/
def cReprB : List PyData → Option Slot
  | [.bool b] => some (.pur (.str (if b then "True" else "False")))
  | _ => none
theorem cr_reprB : CallR X (.builtin "repr") (fun xs H Q => ∃ b : Bool, xs = [.bl b] ∧ Q (.str (if b then "True" else "False")) H) := by
  intro pins s σ H xs us Q I r h
  obtain ⟨b, rfl, q⟩ := h
  obtain ⟨u, rfl, ru⟩ := vals1 r
  cases (show u = Value.bool b from ru)
  exact PySem.P.repr_of_bool ⟨.str _, H, I.tok _, ⟨_, rfl⟩, q⟩
theorem cv_reprB : CallV X (.builtin "repr") cReprB := .of cr_reprB fun xs H Q F ds r ex hd hr k => by
  unfold cReprB at hr
  split at hr
  · cases hr
    obtain ⟨v, rfl, h⟩ := hd.one
    have e := h.bl
    subst e
    exact ⟨_, rfl, k.data ex (.str _)⟩
  · cases hr
/-! ### walked texts -/
def evItS (a : EvB) : EvA := fun env => match a env with
  | some (.str z, env') => some (charsD z, env')
  | _ => none
theorem si_str {tg : Expr} {q st : Bool} {ev : EvB} (h : SB E X e q st ev) : SI E X tg e q (evItS ev) := ⟨fun fr => (pi_str (h.pe fr)).weak fun σ H R ⟨F, ow, env, ds, env', Rl, ee, k⟩ => by
  unfold evItS at ee
  split at ee
  · cases ee
    exact ⟨F, ow, env, _, _, Rl, by assumption, fun v F' H' ow' R' g hq rs => ⟨_, rs.l.str, k _ F' H' ow' R' g hq walk_str⟩⟩
  · cases ee⟩
end
end IX

/-! text IX15 -/
set_option maxHeartbeats 1000000
namespace IX
open PySem PySem.Spec PyProof.Rows L2
variable [KC]
/-! ### boxes: a list or a dict with fixed keys, its items data or lists of their own -/
def isL : PyData → Bool
  | .list _ => true
  | _ => false
inductive Bx (F H : Hp) (S : Addr → Prop) : List Addr → List V → List PyData → Prop
  | nil {U : List Addr} : Bx F H S U [] []
  | val {U : List Addr} {v : V} {d : PyData} {vs : List V} {ds : List PyData} : Rp F v d → isL d = false → Bx F H S U vs ds → Bx F H S U (v :: vs) (d :: ds)
  | own {U : List Addr} {q : Addr} {us : List V} {es : List PyData} {vs : List V} {ds : List PyData} : q ∉ U → S q → H q = some (.lst us) → RpA F us es → Bx F H S (q :: U) vs ds → Bx F H S U (.ref q :: vs) (.list es :: ds)
section
variable {F F' H H' : Hp} {S S' : Addr → Prop}
theorem Bx.mono {U : List Addr} {vs : List V} {ds : List PyData} (h : Bx F H S U vs ds) (f : Ex F F') (hS : ∀ a, S a → S' a) (hH : ∀ a, S a → H' a = H a) : Bx F' H' S' U vs ds := by
  induction h with
  | nil => exact .nil
  | val r n t ih => exact .val (Rp.mono f _ _ r) n ih
  | own n s e r t ih => exact .own n (hS _ s) ((hH _ s).trans e) (RpA.mono f _ _ r) ih
theorem Bx.weak {U : List Addr} {vs : List V} {ds : List PyData} (h : Bx F H S U vs ds) : ∀ {U'}, (∀ a ∈ U', a ∈ U) → Bx F H S U' vs ds := by
  induction h with
  | nil => exact fun _ => .nil
  | val r n t ih => exact fun w => .val r n (ih w)
  | own n s e r t ih => exact fun w => .own (fun z => n (w _ z)) s e r (ih fun a z => (List.mem_cons.mp z).elim (fun z => by simp [z]) fun z => by simp [w a z])
theorem Bx.len {U : List Addr} {vs : List V} {ds : List PyData} (h : Bx F H S U vs ds) : vs.length = ds.length := by
  induction h with
  | nil => rfl
  | val r n t ih => simp [ih]
  | own n s e r t ih => simp [ih]
theorem Bx.get {U : List Addr} {vs : List V} {ds : List PyData} (h : Bx F H S U vs ds) : ∀ {i : Nat} {d : PyData}, ds[i]? = some d → ∃ v, vs[i]? = some v ∧ RpL F H v d := by
  induction h with
  | nil => exact fun e => by simp at e
  | val r n t ih =>
    exact fun {i d} e => by
      cases i with
      | zero => simp at e; subst e; exact ⟨_, rfl, .inl r⟩
      | succ i => obtain ⟨v, h1, h2⟩ := ih (i := i) (by simpa using e); exact ⟨v, by simpa using h1, h2⟩
  | own n s e0 r t ih =>
    exact fun {i d} e => by
      cases i with
      | zero => simp at e; subst e; exact ⟨_, rfl, .inr ⟨_, _, _, rfl, rfl, e0, r⟩⟩
      | succ i => obtain ⟨v, h1, h2⟩ := ih (i := i) (by simpa using e); exact ⟨v, by simpa using h1, h2⟩
theorem Bx.set {U : List Addr} {vs : List V} {ds : List PyData} {v : V} {d : PyData} (h : Bx F H S U vs ds) (r : Rp F v d) (n : isL d = false) : ∀ i, Bx F H S U (vs.set i v) (ds.set i d) := by
  induction h with
  | nil => exact fun i => .nil
  | val r0 n0 t ih =>
    exact fun i => by
      cases i with
      | zero => exact .val r n t
      | succ i => exact .val r0 n0 (ih i)
  | own n0 s e0 r0 t ih =>
    exact fun i => by
      cases i with
      | zero => exact .val r n (t.weak fun a z => by simp [z])
      | succ i => exact .own n0 s e0 r0 (ih i)
theorem Bx.out {U : List Addr} {vs : List V} {ds : List PyData} {p : Addr} {o : HO} (h : Bx F H S U vs ds) : p ∈ U → Bx F (upd H p o) S U vs ds := by
  induction h with
  | nil => exact fun _ => .nil
  | val r n t ih => exact fun m => .val r n (ih m)
  | own n s e r t ih => exact fun m => .own n s (by rw [upd_ne (fun z => n (by rw [z]; exact m))]; exact e) r (ih (by simp [m]))
theorem Bx.inner {U : List Addr} {vs : List V} {ds : List PyData} (h : Bx F H S U vs ds) : ∀ {i : Nat} {es : List PyData}, ds[i]? = some (.list es) → ∃ q us, vs[i]? = some (.ref q) ∧ q ∉ U ∧ S q ∧ H q = some (.lst us) ∧ RpA F us es ∧
    ∀ us' es', RpA F us' es' → Bx F (upd H q (.lst us')) S U vs (ds.set i (.list es')) := by
  induction h with
  | nil => exact fun e => by simp at e
  | val r n t ih =>
    exact fun {i es} e => by
      cases i with
      | zero => simp at e; subst e; cases n
      | succ i =>
        obtain ⟨q, us, h1, h2, h3, h4, h5, h6⟩ := ih (i := i) (by simpa using e)
        exact ⟨q, us, by simpa using h1, h2, h3, h4, h5, fun us' es' ra => .val r n (h6 us' es' ra)⟩
  | own n s e0 r t ih =>
    exact fun {i es} e => by
      cases i with
      | zero =>
        simp at e; subst e
        exact ⟨_, _, rfl, n, s, e0, r, fun us' es' ra => .own n s upd_same ra (t.out (by simp))⟩
      | succ i =>
        obtain ⟨q, us, h1, h2, h3, h4, h5, h6⟩ := ih (i := i) (by simpa using e)
        refine ⟨q, us, by simpa using h1, fun z => h2 (by simp [z]), h3, h4, h5, fun us' es' ra => .own n s ?_ r (h6 us' es' ra)⟩
        rw [upd_ne (fun z => h2 (by simp [z]))]; exact e0
end
def bagK : List Key := [.inr "great", .inr "left", .inr "turn", .inr "blend"]
def boxO : Nat → List V → HO
  | 0, vs => .lst vs
  | _ + 1, vs => .dK (bagK.zip vs)
def boxOk : Nat → List V → Prop
  | 0, _ => True
  | _ + 1, vs => vs.length = 4
theorem SqL.up {K : PySem.W.Frag} {F F' : Hp} {a : Addr} {vs : List V} (h : SqL K F a vs) (e : Ex F F') : SqL K F' a vs :=
  h.elim (fun h => .inl (h.elim (fun h => .inl (e _ _ h)) fun ⟨o, h⟩ => .inr ⟨o, e _ _ h⟩)) .inr
theorem SqL.upX {X : Cx} [hx : KX X] {F F' : Hp} {a : Addr} {vs : List V} (h : SqL KC.K F a vs) (e : Ex F F') : SqL X.K F' a vs := by
  rw [hx.eq]; exact SqL.up h e
/-! ### an object with forms by name -/
abbrev depC : Addr := He.ga KC.K "Depot"
inductive KVd (F : Hp) : List (Key × V) → List (PyData × PyData) → Prop
  | nil : KVd F [] []
  | cons {z : Str} {v : V} {d : PyData} {kvs : List (Key × V)} {es : List (PyData × PyData)} : Rp F v d → KVd F kvs es → KVd F ((.inr z, v) :: kvs) ((.str z, d) :: es)
theorem KVd.mono {F F' : Hp} (f : Ex F F') : ∀ {kvs : List (Key × V)} {es : List (PyData × PyData)}, KVd F kvs es → KVd F' kvs es
  | _, _, .nil => .nil
  | _, _, .cons r t => .cons (Rp.mono f _ _ r) (t.mono f)
structure DepAt (F H : Hp) (S : Addr → Prop) (p : Addr) (es : List (PyData × PyData)) : Prop where
  ex : ∃ (dx d : Addr) (kvs : List (Key × V)), S p ∧ S dx ∧ S d ∧ H p = some (.ins depC dx [("forms", .ref d)]) ∧ H dx = some (.own p) ∧ H d = some (.dK kvs) ∧ KVd F kvs es
theorem DepAt.mono {F F' H H' : Hp} {S S' : Addr → Prop} {p : Addr} {es : List (PyData × PyData)} (h : DepAt F H S p es) (f : Ex F F') (hS : ∀ a, S a → S' a) (hH : ∀ a, S a → H' a = H a) : DepAt F' H' S' p es := by
  obtain ⟨dx, d, kvs, s1, s2, s3, h1, h2, h3, r⟩ := h.ex
  exact ⟨dx, d, kvs, hS _ s1, hS _ s2, hS _ s3, (hH _ s1).trans h1, (hH _ s2).trans h2, (hH _ s3).trans h3, r.mono f⟩
/-- an own exception that is held: its class, its dict -/
abbrev excA (c : Str) : Value := .ref (He.ga KC.K c)
def ExK (c : Str) (dx a : Addr) : HO := .ext fun h => ∃ (oe : Obj) (vs : Array Value), h.get? a = some oe ∧ oe.cls = excA c ∧ oe.dict = some dx ∧ oe.data = .fields vs
def ExcAt (F H : Hp) (S : Addr → Prop) (v : V) (c : Str) (d : PyData) : Prop := ∃ (a dx : Addr) (u : V), v = .ref a ∧ S a ∧ S dx ∧ H a = some (ExK c dx a) ∧ H dx = some (.xd [("value", u)]) ∧ Rp F u d
/-- an exception in the air: its dict -/
def ExdAt (F H : Hp) (S : Addr → Prop) (v : V) (d : PyData) : Prop := ∃ (dx : Addr) (u : V), v = .ref dx ∧ S dx ∧ H dx = some (.xd [("value", u)]) ∧ Rp F u d
def exS (c : Str) (d : PyData) : PyData := .dict [(.none, .tuple [.str c, d])]
/-! an instance with fields that hold data -/
inductive KVs (F : Hp) : List (Str × V) → List (PyData × PyData) → Prop
  | nil : KVs F [] []
  | cons {z : Str} {v : V} {d : PyData} {fs : List (Str × V)} {es : List (PyData × PyData)} : Rp F v d → KVs F fs es → KVs F ((z, v) :: fs) ((.str z, d) :: es)
theorem KVs.mono {F F' : Hp} (f : Ex F F') : ∀ {fs : List (Str × V)} {es : List (PyData × PyData)}, KVs F fs es → KVs F' fs es
  | _, _, .nil => .nil
  | _, _, .cons r t => .cons (Rp.mono f _ _ r) (t.mono f)
structure InsAt (F H : Hp) (S : Addr → Prop) (p : Addr) (C : Str) (es : List (PyData × PyData)) : Prop where
  ex : ∃ (dx : Addr) (fs : List (Str × V)), S p ∧ S dx ∧ H p = some (.ins (He.ga KC.K C) dx fs) ∧ H dx = some (.own p) ∧ KVs F fs es
theorem InsAt.mono {F F' H H' : Hp} {S S' : Addr → Prop} {p : Addr} {C : Str} {es : List (PyData × PyData)} (h : InsAt F H S p C es) (f : Ex F F') (hS : ∀ a, S a → S' a) (hH : ∀ a, S a → H' a = H a) : InsAt F' H' S' p C es := by
  obtain ⟨dx, fs, s1, s2, h1, h2, r⟩ := h.ex
  exact ⟨dx, fs, hS _ s1, hS _ s2, (hH _ s1).trans h1, (hH _ s2).trans h2, r.mono f⟩
abbrev objS (C : Str) (es : List (PyData × PyData)) : PyData := .dict ((.none, .str C) :: es)
/-! an own tree whose shape is told: its cells -/
abbrev wrapS (d : PyData) : PyData := .dict [(.none, d)]
structure Cells (H : Hp) (S : Addr → Prop) (A : List (Addr × HO)) : Prop where
  nd : (A.map (·.1)).Nodup
  at_ : ∀ x ∈ A, S x.1 ∧ H x.1 = some x.2
theorem Cells.mono {H H' : Hp} {S S' : Addr → Prop} {A : List (Addr × HO)} (h : Cells H S A) (hS : ∀ a, S a → S' a) (hH : ∀ a, S a → H' a = H a) : Cells H' S' A := ⟨h.nd, fun x m => ⟨hS _ (h.at_ x m).1, (hH _ (h.at_ x m).1).trans (h.at_ x m).2⟩⟩
inductive ShX (F : Hp) : Nat → List (Addr × HO) → V → PyData → Prop
  | run {a p : Addr} {u : V} {vs : List V} {ds : List PyData} {e : PyData} : RpA F vs ds → Rp F u e → ShX F 7 [(a, .tup [.ref p, u]), (p, .lst vs)] (.ref a) (.tuple [.list ds, e])
  | lst {q a p : Addr} {u : V} {vs ws : List V} {ds : List PyData} {e : PyData} {es : List PyData} : RpA F vs ds → Rp F u e → RpA F ws es → ShX F 8 [(q, .lst (.ref a :: ws)), (a, .tup [.ref p, u]), (p, .lst vs)] (.ref q) (.list (.tuple [.list ds, e] :: es))
theorem ShX.mono {F F' : Hp} (f : Ex F F') {t : Nat} {A : List (Addr × HO)} {v : V} {d : PyData} (h : ShX F t A v d) : ShX F' t A v d := by
  cases h with
  | run r s => exact .run (RpA.mono f _ _ r) (Rp.mono f _ _ s)
  | lst r s w => exact .lst (RpA.mono f _ _ r) (Rp.mono f _ _ s) (RpA.mono f _ _ w)
def E0 : ExtK where
  rel t F H S v g := (∃ p vs ds, v = .ref p ∧ S p ∧ H p = some (boxO t vs) ∧ boxOk t vs ∧ g = .list ds ∧ Bx F H S [p] vs ds) ∨ (∃ a vs ds, v = .ref a ∧ SqL KC.K F a vs ∧ RpA F vs ds ∧ g = .tuple ds) ∨ (∃ p es, v = .ref p ∧ g = .dict es ∧ DepAt F H S p es ∧ t = 3) ∨ (∃ c d, t = 4 ∧ g = exS c d ∧ ExcAt F H S v c d) ∨ (∃ c d, t = 5 ∧ g = exS c d ∧ ExdAt F H S v d) ∨ (∃ p C es, t = 6 ∧ v = .ref p ∧ g = objS C es ∧ InsAt F H S p C es) ∨ ∃ A d, 7 ≤ t ∧ g = wrapS d ∧ Cells H S A ∧ ShX F t A v d
  mono := fun h f hS hH => h.elim (fun ⟨p, vs, ds, e, s, h, o, eg, b⟩ => .inl ⟨p, vs, ds, e, hS p s, (hH p s).trans h, o, eg, b.mono f hS hH⟩) fun h => h.elim (fun ⟨a, vs, ds, e, h, r, eg⟩ => .inr (.inl ⟨a, vs, ds, e, SqL.up h f, RpA.mono f _ _ r, eg⟩)) fun h => h.elim (fun ⟨p, es, e, eg, d, et⟩ => .inr (.inr (.inl ⟨p, es, e, eg, d.mono f hS hH, et⟩))) fun h => h.elim (fun ⟨c, d, et, eg, a, dx, u, e, s1, s2, h1, h2, r⟩ => .inr (.inr (.inr (.inl ⟨c, d, et, eg, a, dx, u, e, hS _ s1, hS _ s2, (hH _ s1).trans h1, (hH _ s2).trans h2, Rp.mono f _ _ r⟩)))) fun h => h.elim (fun ⟨c, d, et, eg, dx, u, e, s1, h1, r⟩ => .inr (.inr (.inr (.inr (.inl ⟨c, d, et, eg, dx, u, e, hS _ s1, (hH _ s1).trans h1, Rp.mono f _ _ r⟩))))) fun h => h.elim (fun ⟨p, C, es, et, e, eg, i⟩ => .inr (.inr (.inr (.inr (.inr (.inl ⟨p, C, es, et, e, eg, i.mono f hS hH⟩)))))) fun ⟨A, d, et, eg, c, s⟩ => .inr (.inr (.inr (.inr (.inr (.inr ⟨A, d, et, eg, c.mono hS hH, s.mono f⟩)))))
theorem bag_val {vs : List V} (h : vs.length = 4) {j : Nat} {k : Key} (hk : bagK[j]? = some k) : valV (bagK.zip vs) k = vs[j]? := by
  match vs, h with
  | [a, b, c, d], _ =>
    match j, hk with
    | 0, hk => cases hk; rfl
    | 1, hk => cases hk; rfl
    | 2, hk => cases hk; rfl
    | 3, hk => cases hk; rfl
    | j + 4, hk => simp [bagK] at hk
theorem bag_put {vs : List V} (h : vs.length = 4) {j : Nat} {k : Key} (hk : bagK[j]? = some k) (v : V) : putK (bagK.zip vs) k v = bagK.zip (vs.set j v) := by
  match vs, h with
  | [a, b, c, d], _ =>
    match j, hk with
    | 0, hk => cases hk; rfl
    | 1, hk => cases hk; rfl
    | 2, hk => cases hk; rfl
    | 3, hk => cases hk; rfl
    | j + 4, hk => simp [bagK] at hk
def boxAt (t : Nat) (env : SEnv) (i : Nat) : Option (Bool × List PyData) := match env[i]? with
  | some (.ext b t' (.list ds)) => if t' = t then some (b, ds) else none
  | _ => none
theorem boxAt_some {t : Nat} {env : SEnv} {i : Nat} {b : Bool} {ds : List PyData} (h : boxAt t env i = some (b, ds)) : env[i]? = some (.ext b t (.list ds)) := by
  unfold boxAt at h
  split at h
  · split at h
    · rename_i z; cases h; subst z; assumption
    · cases h
  · cases h
section
variable {fr : Fra} {F H F' H' : Hp} {ow ow' : Ow} {env env' : SEnv} {σ : L2.St} {i t : Nat} {b : Bool} {ds : List PyData}
theorem Rel.box (R : Rel E0 fr F H ow env σ) (hi : env[i]? = some (.ext b t (.list ds))) : ∃ p vs, σ[i]? = some (some (.ref p)) ∧ ow p = some i ∧ H p = some (boxO t vs) ∧ boxOk t vs ∧ Bx F H (fun a => ow a = some i) [p] vs ds := by
  rcases R.sl i _ hi with z | ⟨v, h1, ⟨p, vs, ds', rfl, s, h, o, eg, bx⟩ | ⟨_, _, _, _, _, _, eg⟩ | ⟨_, _, _, eg, _⟩ | ⟨_, _, _, eg, _⟩ | ⟨_, _, _, eg, _⟩ | ⟨_, _, _, _, _, eg, _⟩ | ⟨_, _, _, eg, _⟩⟩
  · cases z
  · cases eg
    exact ⟨p, vs, h1, s, h, o, bx⟩
  · cases eg
  · cases eg
  · cases eg
  · cases eg
  · cases eg
  · cases eg
/-- the box's object, or a list of it, is rewritten -/
theorem Rel.boxUpd {q : Addr} {u : HO} {p : Addr} {vs : List V} {ds' : List PyData} (R : Rel E0 fr F H ow env σ) (hi : env[i]? = some (.ext b t (.list ds))) (hv : σ[i]? = some (some (.ref p))) (op : ow p = some i) (oq : ow q = some i)
    (hp : upd H q u p = some (boxO t vs)) (o : boxOk t vs) (bx : Bx F (upd H q u) (fun a => ow a = some i) [p] vs ds') : Rel E0 fr F (upd H q u) ow (env.set i (.ext b t (.list ds'))) σ ∧ Grow F H ow F (upd H q u) ow := by
  have ne : ∀ a, ow a ≠ some i → upd H q u a = H a := fun a n => upd_ne fun z => n (z ▸ oq)
  have nn : ∀ a, H a ≠ none → upd H q u a ≠ none := fun a h => by
    by_cases z : a = q
    · subst z; rw [upd_same]; exact fun z => nomatch z
    · rw [upd_ne z]; exact h
  exact ⟨R.chg hi hv ne (fun a ha => nn a (R.sep a i ha).2.2) (.inl ⟨p, vs, ds', rfl, op, hp, o, rfl, bx⟩) rfl, Grow.chg (fun a n => ne a fun z => by rw [n] at z; cases z) nn⟩
end
/-! ### the script: a list that nobody changes -/
def scrAt (env : SEnv) (i : Nat) : Option (List PyData) := match env[i]? with
  | some (.ext _ _ (.tuple ds)) => some ds
  | _ => none
theorem scrAt_some {env : SEnv} {i : Nat} {ds : List PyData} (h : scrAt env i = some ds) : ∃ b t, env[i]? = some (.ext b t (.tuple ds)) := by
  unfold scrAt at h
  split at h
  · cases h; exact ⟨_, _, by assumption⟩
  · cases h
theorem Rel.scr {fr : Fra} {F H : Hp} {ow : Ow} {env : SEnv} {σ : L2.St} {i : Nat} {ds : List PyData} (R : Rel E0 fr F H ow env σ) (h : scrAt env i = some ds) : ∃ a vs, σ[i]? = some (some (.ref a)) ∧ SqL KC.K F a vs ∧ RpA F vs ds := by
  obtain ⟨b, t, hi⟩ := scrAt_some h
  rcases R.sl i _ hi with z | ⟨v, h1, ⟨p, vs, ds', rfl, s, h, o, eg, bx⟩ | ⟨a, vs, ds', rfl, hf, r, eg⟩ | ⟨_, _, _, eg, _⟩ | ⟨_, _, _, eg, _⟩ | ⟨_, _, _, eg, _⟩ | ⟨_, _, _, _, _, eg, _⟩ | ⟨_, _, _, eg, _⟩⟩
  · cases z
  · cases eg
  · cases eg
    exact ⟨a, vs, h1, hf, r⟩
  · cases eg
  · cases eg
  · cases eg
  · cases eg
  · cases eg
section
variable {X : Cx} [KX X] {e : Expr} {es : List Expr} {p pos p2 : Pos} {x : Str} {i j t : Nat}
def evScLen (i : Nat) : EvB := fun env => (scrAt env i).map fun ds => (.int (ds.length : Nat), env)
theorem sp_scLen (h : PE X (.Name x p) (tVar i)) (hg : Gl X "len") (hm : X.mg "len" = none) (he : starEach [.Name x p] X.env = (false, eval (.Name x p) X.env) :: starEach [] X.env := by rfl) : SP E0 X (.Call (.Name "len" p2) [.Name x p] [] pos) true (evScLen i) := ⟨fun fr =>
  (pe_callB call_len hg hm boot_len (pa_cons h pa_nil)).weak fun σ H Q ⟨F, ow, env, d, env', R, ee, k⟩ => by
  obtain ⟨ds, h1, ee⟩ := Option.map_eq_some_iff.mp ee
  cases ee
  obtain ⟨a, vs, hv, hf, r⟩ := R.scr h1
  exact ⟨_, hv, _, _, rfl, .inl ⟨vs, SqL.upX hf R.fh, r.length.symm⟩, k _ F H ow R Grow.refl (fun _ => Ex.refl _) (.int _)⟩⟩
def evScIt (i : Nat) : EvA := fun env => (scrAt env i).map fun ds => (ds, env)
theorem si_scr {tg : Expr} (h : PE X (.Name x p) (tVar i)) : SI E0 X tg (.Name x p) true (evScIt i) := ⟨fun fr => (pi_list h).weak fun σ H R ⟨F, ow, env, ds, env', Rl, ee, k⟩ => by
  obtain ⟨ds', h1, ee⟩ := Option.map_eq_some_iff.mp ee
  cases ee
  obtain ⟨a, vs, hv, hf, r⟩ := Rl.scr h1
  have sq : ∀ {F1 H1 : Hp}, Ex F F1 → Ex F1 H1 → SqL X.K H1 a vs := fun f fh => SqL.upX hf (f.tr fh)
  refine ⟨_, hv, a, rfl, ⟨vs, sq (Ex.refl _) Rl.fh⟩, k _ F H ow Rl Grow.refl (fun _ => Ex.refl _) fun j F1 H1 f fh => ?_⟩
  refine ⟨fun d hd => ?_, fun hl => ⟨vs, sq f fh, by rw [r.length]; exact hl⟩⟩
  obtain ⟨v, hvj, rv⟩ := r.get hd
  refine ⟨⟨vs, v, sq f fh, hvj⟩, fun y H2 ⟨e, z⟩ => ?_⟩
  subst e
  have e2 := z vs (sq f fh)
  rw [hvj] at e2
  cases e2
  exact ⟨F1, Alloc.refl fh, Rp.mono f _ _ rv⟩⟩
def evScIx (i : Nat) (ev : EvB) : EvB := fun env => (scrAt env i).bind fun _ => match ev env with
  | some (.int k, e1) => (scrAt e1 i).bind fun ds => (atI ds k).map fun d => (d, e1)
  | _ => none
end
/-! ### looks -/
def evBx (t i j : Nat) : EvB := fun env => (boxAt t env i).bind fun p => (p.2[j]?).map fun d => (d, env)
section
variable {X : Cx} [KX X] {e : Expr} {es : List Expr} {p pos : Pos} {x : Str} {i j t : Nat}
/-- a reading that tells the box's value at j -/
def tBx (t i j : Nat) : TE := fun σ H Q => ∃ (p : Addr) (vs : List V) (v : V), σ[i]? = some (some (.ref p)) ∧ H p = some (boxO t vs) ∧ boxOk t vs ∧ vs[j]? = some v ∧ Q v H
theorem sb_bx (h : PE X e (tBx t i j)) : SB E0 X e true false (evBx t i j) := ⟨fun fr => h.weak fun σ H Q ⟨F, ow, env, d, env', R, ee, k⟩ => by
  obtain ⟨⟨b, ds⟩, h1, ee⟩ := bind2 ee
  obtain ⟨d', h2, ee⟩ := Option.map_eq_some_iff.mp ee
  cases ee
  obtain ⟨q, vs, hv, op, hp, o, bx⟩ := R.box (boxAt_some h1)
  obtain ⟨v, hj, rv⟩ := bx.get h2
  refine ⟨q, vs, v, hv, hp, o, hj, k v F H ow R Grow.refl (fun _ => Ex.refl _) ?_⟩
  rcases rv with rv | ⟨a, us, es, e1, e2, e3, e4⟩
  · exact .inl rv
  · exact .inr ⟨a, us, es, e1, e2, e3, e4, fun z => nomatch z⟩⟩
theorem pe_bxL {k : Nat} {ip : Pos} (h : PE X (.Name x p) (tVar i)) (hs : PlainIx (.Constant (.int (j : Int)) k ip) := by exact fun _ _ => rfl) : PE X (.Subscript (.Name x p) (.Constant (.int (j : Int)) k ip) pos) (tBx 0 i j) :=
  (pe_ix ix_list h pe_int hs).weak fun σ H Q ⟨q, vs, v, h1, h2, _, h3, k⟩ => ⟨_, h1, q, vs, j, v, rfl, rfl, SqL.of h2, by
    unfold atI ixN
    have hl : j < vs.length := (List.getElem?_eq_some_iff.mp h3).1
    rw [if_pos (by omega), if_pos (by omega)]
    simpa using h3, k⟩
theorem pe_bxD {z : Str} {k : Nat} {ip : Pos} (hu : X.A.units + 64 < cLine) (h : PE X (.Name x p) (tVar i)) (hz : bagK[j]? = some (.inr z)) (hs : NoSl (.Constant (.str z) k ip) := by exact fun _ _ => rfl) : PE X (.Subscript (.Name x p) (.Constant (.str z) k ip) pos) (tBx 1 i j) :=
  (pe_dget (by omega) h pe_str hs).weak fun σ H Q ⟨q, vs, v, h1, h2, o, h3, k⟩ => ⟨_, h1, q, v, rfl, (by
    have := DGet.k (k := .inr z) h2
    rw [bag_val o hz, h3] at this
    exact this), k⟩
/-! ### stores -/
def xBxSet (t i j : Nat) (ev : EvB) : EvS := fun env => (ev env).bind fun p => (boxAt t p.2 i).bind fun q => if isL p.1 = false ∧ j < q.2.length then some (.nxt (p.2.set i (.ext q.1 t (.list (q.2.set j p.1))))) else none
theorem bx_set_core {fr : Fra} {F H : Hp} {ow : Ow} {env : SEnv} {σ : L2.St} {b : Bool} {ds : List PyData} {q : Addr} {vs : List V} {v : V} {d : PyData} (R : Rel E0 fr F H ow env σ) (hi : env[i]? = some (.ext b t (.list ds))) (hv : σ[i]? = some (some (.ref q))) (op : ow q = some i) (o : boxOk t vs) (bx : Bx F H (fun a => ow a = some i) [q] vs ds) (r : Rp F v d) (n : isL d = false) :
    Rel E0 fr F (upd H q (boxO t (vs.set j v))) ow (env.set i (.ext b t (.list (ds.set j d)))) σ ∧ Grow F H ow F (upd H q (boxO t (vs.set j v))) ow := by
  refine R.boxUpd hi hv op op upd_same ?_ ((bx.out (by simp)).set r n j)
  cases t with
  | zero => trivial
  | succ t => show (vs.set j v).length = 4; rw [List.length_set]; exact o
theorem ss_bxL {k : Nat} {ip tpos spos : Pos} {q : Bool} {ev : EvB} (h : PE X (.Name x p) (tVar i)) (he : SP E0 X e q ev)
    (ha : ∀ v, assign (.Subscript (.Name x p) (.Constant (.int (j : Int)) k ip) tpos) X.env v = (do
      let ov ← holding [v] (eval (.Name x p) X.env)
      let iv ← holding [v, ov] (eval (.Constant (.int (j : Int)) k ip) X.env)
      standAt tpos
      holding [v, ov, iv] (setItem ov iv v)
      release [v, ov, iv] []) := by intro _; rfl)
    (hs : swapsWithSole [.Subscript (.Name x p) (.Constant (.int (j : Int)) k ip) tpos] e spos.line X.env = pure false := by rfl) (hw : swappedStores [.Subscript (.Name x p) (.Constant (.int (j : Int)) k ip) tpos] e X.env = pure none := by rfl)
    (h1 : (assignEach [.Subscript (.Name x p) (.Constant (.int (j : Int)) k ip) tpos] X.env).map (·.2) = [assign (.Subscript (.Name x p) (.Constant (.int (j : Int)) k ip) tpos) X.env] := by rfl) :
    SS E0 X (.Assign [.Subscript (.Name x p) (.Constant (.int (j : Int)) k ip) tpos] e spos) (xBxSet 0 i j ev) := ⟨fun fr => (ps_asg (he.pe fr) (pg_sub h pe_int set_list ha) hs hw h1).weak fun D σ H ⟨F, ow, env, o, R, ee, k⟩ => by
  obtain ⟨⟨d, e1⟩, g1, ee⟩ := bind2 ee
  obtain ⟨⟨b, ds⟩, g2, ee⟩ := bind2 ee
  have ee : (if isL d = false ∧ j < ds.length then some (Out.nxt (e1.set i (.ext b 0 (.list (ds.set j d))))) else none) = some o := ee
  split at ee
  · rename_i z
    cases ee
    refine ⟨F, ow, env, d, e1, R, g1, fun v F1 H1 ow1 R1 gr1 q1 r1 => ?_⟩
    obtain ⟨q, vs, hv, op, hp, o, bx⟩ := R1.box (boxAt_some g2)
    obtain ⟨R3, gr3⟩ := bx_set_core (j := j) R1 (boxAt_some g2) hv op o bx r1 z.1
    refine ⟨_, hv, q, vs, (j : Int), j, rfl, rfl, hp, ?_, k F1 _ ow1 _ R3 (gr1.f.tr gr3.f)⟩
    unfold ixN
    rw [bx.len, if_pos (by omega), if_pos (by omega)]
    simp
  · cases ee⟩
theorem ss_bxD {z : Str} {k : Nat} {ip tpos spos : Pos} {q : Bool} {ev : EvB} (hu : X.A.units + 64 < cLine) (h : PE X (.Name x p) (tVar i)) (hz : bagK[j]? = some (.inr z)) (he : SP E0 X e q ev)
    (ha : ∀ v, assign (.Subscript (.Name x p) (.Constant (.str z) k ip) tpos) X.env v = (do
      let ov ← holding [v] (eval (.Name x p) X.env)
      let iv ← holding [v, ov] (eval (.Constant (.str z) k ip) X.env)
      standAt tpos
      holding [v, ov, iv] (setItem ov iv v)
      release [v, ov, iv] []) := by intro _; rfl)
    (hs : swapsWithSole [.Subscript (.Name x p) (.Constant (.str z) k ip) tpos] e spos.line X.env = pure false := by rfl) (hw : swappedStores [.Subscript (.Name x p) (.Constant (.str z) k ip) tpos] e X.env = pure none := by rfl)
    (h1 : (assignEach [.Subscript (.Name x p) (.Constant (.str z) k ip) tpos] X.env).map (·.2) = [assign (.Subscript (.Name x p) (.Constant (.str z) k ip) tpos) X.env] := by rfl) :
    SS E0 X (.Assign [.Subscript (.Name x p) (.Constant (.str z) k ip) tpos] e spos) (xBxSet 1 i j ev) := ⟨fun fr => (ps_asg (he.pe fr) (pg_sub h pe_str (set_dict (by omega)) ha) hs hw h1).weak fun D σ H ⟨F, ow, env, o, R, ee, k⟩ => by
  obtain ⟨⟨d, e1⟩, g1, ee⟩ := bind2 ee
  obtain ⟨⟨b, ds⟩, g2, ee⟩ := bind2 ee
  have ee : (if isL d = false ∧ j < ds.length then some (Out.nxt (e1.set i (.ext b 1 (.list (ds.set j d))))) else none) = some o := ee
  split at ee
  · rename_i zz
    cases ee
    refine ⟨F, ow, env, d, e1, R, g1, fun v F1 H1 ow1 R1 gr1 q1 r1 => ?_⟩
    obtain ⟨q, vs, hv, op, hp, o, bx⟩ := R1.box (boxAt_some g2)
    obtain ⟨R3, gr3⟩ := bx_set_core (j := j) R1 (boxAt_some g2) hv op o bx r1 zz.1
    have hl : (bagK.zip vs).length < sizeLine := by
      have o' : vs.length = 4 := o
      rw [List.length_zip, o']
      show min 4 4 < _
      rw [sizeLine_eq]; omega
    have dp := DPut.k (k := .inr z) (v := v) hp hl
    rw [bag_put o hz] at dp
    exact ⟨_, hv, q, _, rfl, dp, k F1 _ ow1 _ R3 (gr1.f.tr gr3.f)⟩
  · cases ee⟩
/-- x[k] op= e -/
def xBxAug (i j : Nat) (f : PyData → PyData → Option Slot) (ev : EvB) : EvS := fun env => (boxAt 1 env i).bind fun q0 => (q0.2[j]?).bind fun d0 => if isL d0 = true then none else (ev env).bind fun p => match f d0 p.1 with
  | some (.pur d) => (boxAt 1 p.2 i).bind fun q => if isL d = false ∧ j < q.2.length then some (.nxt (p.2.set i (.ext q.1 1 (.list (q.2.set j d))))) else none
  | _ => none
theorem ss_bxAug {z : Str} {k : Nat} {ip tpos : Pos} {op : Operator} {f : PyData → PyData → Option Slot} {q st : Bool} {ev : EvB} (hu : X.A.units + 64 < cLine) (h : PE X (.Name x p) (tVar i)) (hz : bagK[j]? = some (.inr z)) (he : SB E0 X e q st ev) (hop : BinV X (inplaceOp op) f)
    (ha : ∀ ov iv new, augStore (.Constant (.str z) k ip) ov iv new = (do holding [new, ov, iv] (setItem ov iv new); release [new, ov, iv] []; pure .next) := by intros; rfl) :
    SS E0 X (.AugAssign (.Subscript (.Name x p) (.Constant (.str z) k ip) tpos) op e pos) (xBxAug i j f ev) := ⟨fun fr => (ps_daug (by omega) h pe_str (he.pe fr) (rd := rBinV f) hop ha).weak fun D σ H ⟨F, ow, env, o, R, ee, k⟩ => by
  obtain ⟨⟨b0, ds0⟩, g0, ee⟩ := bind2 ee
  obtain ⟨d0, g1, ee⟩ := bind2 ee
  have ee : (if isL d0 = true then none else (ev env).bind fun p => match f d0 p.1 with
    | some (.pur d) => (boxAt 1 p.2 i).bind fun q => if isL d = false ∧ j < q.2.length then some (.nxt (p.2.set i (.ext q.1 1 (.list (q.2.set j d))))) else none
    | _ => none) = some o := ee
  split at ee
  · cases ee
  rename_i nl
  obtain ⟨⟨d', e1⟩, g2, ee⟩ := bind2 ee
  dsimp only at ee
  split at ee
  · rename_i d g3
    obtain ⟨⟨b, ds⟩, g4, ee⟩ := bind2 ee
    have ee : (if isL d = false ∧ j < ds.length then some (Out.nxt (e1.set i (.ext b 1 (.list (ds.set j d))))) else none) = some o := ee
    split at ee
    · rename_i zz
      cases ee
      obtain ⟨a, vs, hv, oa, hp, o, bx⟩ := R.box (boxAt_some g0)
      obtain ⟨v, hj, rv⟩ := bx.get g1
      have rv0 : Rp F v d0 := by
        rcases rv with rv | ⟨_, _, _, _, e2, _⟩
        · exact rv
        · subst e2; exact absurd rfl nl
      refine ⟨_, hv, a, v, rfl, ?_, F, ow, env, d', e1, R, g2, fun w F1 H1 ow1 R1 gr1 q1 r1 => ?_⟩
      · have := DGet.k (k := .inr z) hp
        rw [bag_val o hz, hj] at this
        exact this
      · refine ⟨F1, d0, d', _, R1.fh, .inl (Rp.mono gr1.f _ _ rv0), r1.l, g3, fun u F2 H2 al ra => ?_⟩
        have R2 := R1.alloc al
        have ra : Rp F2 u d := ra
        obtain ⟨a2, vs2, hv2, oa2, hp2, o2, bx2⟩ := R2.box (boxAt_some g4)
        rw [hv] at hv2
        cases hv2
        obtain ⟨R3, gr3⟩ := bx_set_core (j := j) R2 (boxAt_some g4) hv oa2 o2 bx2 ra zz.1
        have hl : (bagK.zip vs2).length < sizeLine := by
          have o' : vs2.length = 4 := o2
          rw [List.length_zip, o']
          show min 4 4 < _
          rw [sizeLine_eq]; omega
        have dp := DPut.k (k := .inr z) (v := u) hp2 hl
        rw [bag_put o2 hz] at dp
        exact ⟨_, dp, k F2 _ ow1 _ R3 ((gr1.f.tr al.f).tr gr3.f)⟩
    · cases ee
  · cases ee⟩
/-! ### x[k].m(..) of a list within -/
def evBxMut (t i j : Nat) (f : List PyData → List PyData → Option (PyData × List PyData)) (a : EvA) : EvB := fun env => (boxAt t env i).bind fun p0 => match p0.2[j]? with
  | some (.list _) => (a env).bind fun p => (boxAt t p.2 i).bind fun q => match q.2[j]? with
    | some (.list es) => (f es p.1).map fun r => (r.1, p.2.set i (.ext q.1 t (.list (q.2.set j (.list r.2)))))
    | _ => none
  | _ => none
end
end IX

/-! text IX16 -/
set_option maxHeartbeats 1000000
namespace IX
open PySem PySem.Spec PyProof.Rows L2
variable [KC]
section
variable {X : Cx} [KX X] {o e : Expr} {es : List Expr} {p pos : Pos} {x : Str} {i j t : Nat}
theorem sp_bxMut {id : String} {name : Str} {apos : Pos} {a : EvA} {f : List PyData → List PyData → Option (PyData × List PyData)} (h : PE X o (tBx t i j)) (pa : PlainAttrs "list") (slot : PySem.Slot "list" name id) (hty : typeOf (.builtin id) = pure (.type "method_descriptor")) (hm : MutV X id f) (ha : SA E0 X (e :: es) true a)
    (hbase : attributeBase o name X.env (eval o X.env) = eval o X.env := by rfl)
    (hfew : ((backTo pos (starEach (e :: es) X.env)).all (fun x => !x.1) && (backToKw pos (keywordEach [] X.env)).all (fun x => x.1.isSome)
      && decide ((e :: es).length + ([] : List Keyword).length + (if ([] : List Keyword).isEmpty then 0 else 1) < 30)) = true := by rfl)
    (hline : (apos.endLine == pos.line) = true := by rfl) (hs : starEach (e :: es) X.env = (false, eval e X.env) :: starEach es X.env := by rfl) (hplain : (backTo pos (starEach es X.env)).any (·.1) = false := by rfl) :
    SP E0 X (.Call (.Attribute o name apos) (e :: es) [] pos) false (evBxMut t i j f a) := ⟨fun fr => by
  obtain ⟨r0, hm0, w⟩ := hm
  refine (pe_bm pa slot hty hm0 h (ha.pa fr) hbase hfew hline hs hplain).weak fun σ H Q ⟨F, ow, env, d, env', R, ee, k⟩ => ?_
  obtain ⟨⟨b0, ds0⟩, g0, ee⟩ := bind2 ee
  dsimp only at ee
  split at ee
  · rename_i es0 g1
    obtain ⟨⟨as, e1⟩, g2, ee⟩ := bind2 ee
    obtain ⟨⟨b, ds⟩, g3, ee⟩ := bind2 ee
    dsimp only at ee
    split at ee
    · rename_i es1 g4
      obtain ⟨⟨d', es'⟩, g5, ee⟩ := Option.map_eq_some_iff.mp ee
      cases ee
      obtain ⟨a0, vs, hv, oa, hp, ob, bx⟩ := R.box (boxAt_some g0)
      obtain ⟨q, us, hj, hq1, hq2, hq3, hq4, _⟩ := bx.inner g1
      refine ⟨a0, vs, .ref q, hv, hp, ob, hj, .inl ⟨rfl, us, SqL.of hq3⟩, F, ow, env, as, e1, R, g2, fun xs F' H' ow' R' g hq rx => ?_⟩
      obtain ⟨a1, vs1, hv1, oa1, hp1, ob1, bx1⟩ := R'.box (boxAt_some g3)
      rw [hv] at hv1
      cases hv1
      have hp2 := hq rfl _ _ hp
      rw [hp1] at hp2
      have ev : vs1 = vs := by
        cases t with
        | zero => cases hp2; rfl
        | succ t =>
          have e : bagK.zip vs1 = bagK.zip vs := by
            have : HO.dK (bagK.zip vs1) = HO.dK (bagK.zip vs) := Option.some.inj hp2
            injection this
          have l1 : vs1.length = 4 := ob1
          have l2 : vs.length = 4 := ob
          match vs1, vs, l1, l2, e with
          | [a, b, c, d], [a', b', c', d'], _, _, e => simpa [bagK] using e
      subst ev
      obtain ⟨q', us', hj', hq1', hq2', hq3', hq4', bxn⟩ := bx1.inner g4
      rw [hj] at hj'
      cases hj'
      refine w xs H' Q F' q us' es1 as _ es' R'.fh hq3' hq4' rx g5 fun v vs' rv rv' => ?_
      have np : a0 ≠ q := fun z => hq1' (by simp [z])
      obtain ⟨R3, gr3⟩ := R'.boxUpd (q := q) (u := .lst vs') (boxAt_some g3) hv oa1 hq2' (by rw [upd_ne np]; exact hp1) ob1 (bxn vs' es' rv')
      exact k v F' _ ow' R3 (g.tr gr3) (fun z => nomatch z) rv
    · cases ee
  · cases ee⟩
/-! ### new boxes -/
def evBoxL (i : Nat) (a : EvA) : EvE := fun env => (ownAt env i).bind fun _ => (a env).bind fun p => (ownAt p.2 i).bind fun q => if q.1 = false ∧ p.1.all (fun d => !isL d) = true ∧ p.1.length < sizeLine then some (.ext false 0 (.list (.list q.2 :: p.1)), p.2.set i .und) else none
theorem bx_vals {F H : Hp} {S : Addr → Prop} {U : List Addr} : ∀ {vs : List V} {ds : List PyData}, RpA F vs ds → ds.all (fun d => !isL d) = true → Bx F H S U vs ds
  | _, _, .nil, _ => .nil
  | _, _, .cons r t, h => by
    rw [List.all_cons] at h
    obtain ⟨h1, h2⟩ := Bool.and_eq_true_iff.mp h
    exact .val r (by simpa using h1) (bx_vals t h2)
/-- the result that takes a name's list over -/
theorem box_res {fr : Fra} {F0 H0 F H : Hp} {ow0 ow : Ow} {env : SEnv} {σ : L2.St} {ds0 ds : List PyData} {l p : Addr} {ws : List V} (R : Rel E0 fr F H ow env σ) (g : Grow F0 H0 ow0 F H ow) (hi : env[i]? = some (.own false ds0)) (hv : σ[i]? = some (some (.ref l))) (hp : H p = none)
    (rw' : RpA F ws ds) (nl : ds.all (fun d => !isL d) = true) (ok : boxOk t (.ref l :: ws)) :
    Rel E0 fr F (upd H p (boxO t (.ref l :: ws))) (fun a => if ow a = some i then none else ow a) (env.set i .und) σ ∧ Grow F0 H0 ow0 F (upd H p (boxO t (.ref l :: ws))) (fun a => if ow a = some i then none else ow a) ∧ Ex H (upd H p (boxO t (.ref l :: ws))) ∧
    Res E0 fr H0 ow0 F (upd H p (boxO t (.ref l :: ws))) (fun a => if ow a = some i then none else ow a) (.ref p) (.ext false t (.list (.list ds0 :: ds))) := by
  have al := Alloc.tmp (o := boxO t (.ref l :: ws)) R.fh hp
  rcases R.sl i _ hi with z | ⟨v', h5, l', us, e, op, hl, r⟩
  · cases z
  rw [hv] at h5
  cases h5
  cases e
  have op : ow l = some i := op
  have pl : l ≠ p := fun z => by subst z; rw [hl] at hp; cases hp
  have ed : upd (F) p (boxO t (.ref l :: ws)) = upd F p (boxO t (.ref l :: ws)) := rfl
  refine ⟨R.drop.alloc al, (g.tr Grow.drop).tr (al.grow R.drop), al.h, rfl, (fun z => nomatch z), fun a => a = p ∨ ow a = some i, fun a ha => ?_, .inl ⟨p, .ref l :: ws, .list ds0 :: ds, rfl, .inl rfl, upd_same, ok, rfl, ?_⟩⟩
  · rcases ha with rfl | ha
    · have n := R.free hp
      refine ⟨?_, R.fh.non hp, R.bh.non hp, by rw [upd_same]; exact (fun z => nomatch z), fun h z => absurd hp (g.dom a h)⟩
      show (if ow a = some i then none else ow a) = none
      rw [n]; rfl
    · obtain ⟨h1, h2, h3⟩ := R.sep a i ha
      obtain ⟨o, ho⟩ := some_of_ne h3
      refine ⟨if_pos ha, h1, h2, ne_of_some (al.h a o ho), fun h z => ?_⟩
      have := (g.fz a h z).2
      rw [ha] at this; cases this
  · refine .own (q := l) (by simpa using pl) (.inr op) ?_ r (bx_vals rw' nl)
    rw [upd_ne pl]; exact hl
theorem se_boxL {q : Bool} {a : EvA} (h : PE X (.Name x p) (tVar i)) (ha : SA E0 X es q a) (hs : starEach (.Name x p :: es) X.env = (false, eval (.Name x p) X.env) :: starEach es X.env := by rfl) : SE E0 X (.List (.Name x p :: es) pos) q (evBoxL i a) := ⟨fun fr => (pe_lst (pa_cons h (ha.pa fr) hs)).weak fun σ H Q ⟨F, ow, env, r, env', R, ee, k⟩ => by
  obtain ⟨⟨b0, ds0⟩, g0, ee⟩ := bind2 ee
  obtain ⟨⟨ds, e1⟩, g1, ee⟩ := bind2 ee
  obtain ⟨⟨b, ds1⟩, g2, ee⟩ := bind2 ee
  have ee : (if b = false ∧ ds.all (fun d => !isL d) = true ∧ ds.length < sizeLine then some (Slot.ext false 0 (.list (.list ds1 :: ds)), e1.set i .und) else none) = some (r, env') := ee
  split at ee
  · rename_i z
    obtain ⟨z1, z2, z3⟩ := z
    cases ee
    subst z1
    rcases R.sl i _ (ownAt_some g0) with z | ⟨v', h5, l, us, rfl, op, hl, r⟩
    · cases z
    refine ⟨_, h5, F, ow, env, ds, e1, R, g1, fun ws F' H' ow' R' g hq rw' => ⟨by rw [List.length_cons, rw'.length]; exact z3, fun p hp => ?_⟩⟩
    obtain ⟨h1, h2, h3, h4⟩ := box_res (t := 0) R' g (ownAt_some g2) h5 hp rw' z2 trivial
    exact k _ _ _ _ h1 h2 (fun z => (hq z).tr h3) h4
  · cases ee⟩
/-- {'great': x, 'left': 0, 'turn': 0, 'blend': y} -/
def evBoxD (i k : Nat) : EvE := fun env => match env[i]?, env[k]? with
  | some (.own false ds), some (.pur (.int n)) => some (.ext false 1 (.list [.list ds, .int 0, .int 0, .int n]), env.set i .und)
  | _, _ => none
theorem se_boxD {k : Nat} {y : Str} {p2 k1 k2 k3 k4 z1 z2 : Pos} {c1 c2 c3 c4 c5 c6 : Nat} (h : PE X (.Name x p) (tVar i)) (hy : PE X (.Name y p2) (tVar k)) :
    SE E0 X (.Dict [some (.Constant (.str "great") c1 k1), some (.Constant (.str "left") c2 k2), some (.Constant (.str "turn") c3 k3), some (.Constant (.str "blend") c4 k4)] [.Name x p, .Constant (.int 0) c5 z1, .Constant (.int 0) c6 z2, .Name y p2] pos) true (evBoxD i k) := ⟨fun fr =>
  (pe_disp (pps_cons pe_str h (pps_cons pe_str pe_int (pps_cons pe_str pe_int (pps_cons pe_str hy pps_nil)))) rfl rfl (by simp) (by simp)).weak fun σ H Q ⟨F, ow, env, r, env', R, ee, kk⟩ => by
  unfold evBoxD at ee
  split at ee
  · rename_i ds n e1 e2
    cases ee
    rcases R.sl i _ e1 with z | ⟨v', h5, l, us, rfl, op, hl, r⟩
    · cases z
    rcases R.sl k _ e2 with z | ⟨v2, h6, r2⟩
    · cases z
    cases r2
    intro p hp
    refine ⟨_, h5, _, h6, upd_same, [(.inr "great", .ref l), (.inr "left", .int 0), (.inr "turn", .int 0), (.inr "blend", .int n)], rfl, by simp, ?_⟩
    obtain ⟨h1, h2, h3, h4⟩ := box_res (t := 1) (ws := [.int 0, .int 0, .int n]) (ds := [.int 0, .int 0, .int n]) R Grow.refl e1 h5 hp (.cons (.int 0) (.cons (.int 0) (.cons (.int n) .nil))) rfl rfl
    have e : upd (upd H p (.dK [])) p (.dK (mergeK [] [(Sum.inr "great", V.ref l), (.inr "left", .int 0), (.inr "turn", .int 0), (.inr "blend", .int n)])) = upd H p (boxO 1 [.ref l, .int 0, .int 0, .int n]) := by
      funext a
      by_cases z : a = p
      · subst z; rw [upd_same, upd_same]; rfl
      · rw [upd_ne z, upd_ne z, upd_ne z]
    rw [e]
    exact kk _ _ _ _ h1 h2 (fun _ => h3) h4
  · cases ee⟩

/-- script[lo:hi], script[e]: a new list, an item -/
def evScSl (i : Nat) (l h : EvO) : EvE := fun env => (scrAt env i).bind fun ds => (l env).bind fun q => (h q.2).bind fun r => (fSl (.list ds) q.1 r.1).map fun s => (s, r.2)
theorem se_scSl {ql qh : Bool} {evl evh : EvO} {lo hi : Option Expr} {p2 : Pos} (h : PE X (.Name x p) (tVar i)) (hl : SO E0 X lo ql evl) (hh : SO E0 X hi qh evh) : SE E0 X (.Subscript (.Name x p) (.Slice lo hi none p2) pos) (ql && qh) (evScSl i evl evh) := ⟨fun fr => (pe_slice (sl_list (X := X)) h (hl.po fr) (hh.po fr)).weak fun σ H Q ⟨F, ow, env, r, env', R, ee, k⟩ => by
  obtain ⟨ds, h1, ee⟩ := bind2 ee
  obtain ⟨⟨lo', e1⟩, h2, ee⟩ := bind2 ee
  obtain ⟨⟨hi', e2⟩, h3, ee⟩ := bind2 ee
  obtain ⟨s, h4, ee⟩ := Option.map_eq_some_iff.mp ee
  cases ee
  obtain ⟨a, vs, hv, hf, r⟩ := R.scr h1
  refine ⟨_, hv, F, ow, env, lo', e1, R, h2, fun F1 H1 ow1 R1 g1 q1 => ⟨F1, ow1, e1, hi', e2, R1, h3, fun F2 H2 ow2 R2 g2 q2 => ?_⟩⟩
  cases h4
  refine ⟨_, vs, rfl, SqL.upX hf ((g1.f.tr g2.f).tr R2.fh), fun l hl => ?_⟩
  exact (out_of (q := ql && qh) R2 (g1.tr g2) (fun z => (q1 (and1 z)).tr (q2 (and2 z))) k).newL R2.fh (cut_V (RpA.mono (g1.f.tr g2.f) _ _ r) lo' hi') hl⟩
theorem sp_scIx {q st : Bool} {ev : EvB} (h : PE X (.Name x p) (tVar i)) (hb : SB E0 X e q st ev) (hs : PlainIx e := by exact fun _ _ => rfl) : SP E0 X (.Subscript (.Name x p) e pos) q (evScIx i ev) := ⟨fun fr => (pe_ix ix_list h (hb.pe fr) hs).weak fun σ H Q ⟨F, ow, env, d, env', R, ee, k⟩ => by
  obtain ⟨ds, h1, ee⟩ := bind2 ee
  split at ee
  · rename_i kk e1 h2
    obtain ⟨ds', h3, ee⟩ := bind2 ee
    obtain ⟨d', h4, ee⟩ := Option.map_eq_some_iff.mp ee
    cases ee
    obtain ⟨a, vs, hv, hf, r⟩ := R.scr h1
    refine ⟨_, hv, F, ow, env, _, _, R, h2, fun v F1 H1 ow1 R1 g1 q1 rv => ?_⟩
    obtain ⟨a', vs', hv', hf', r'⟩ := R1.scr h3
    rw [hv] at hv'
    cases hv'
    unfold atI at h4
    obtain ⟨jj, h5, h6⟩ := bind2 h4
    obtain ⟨u, hu, ru⟩ := r'.get h6
    refine ⟨_, vs', kk, u, rfl, rv.l.int, SqL.upX hf' R1.fh, ?_, k u F1 H1 ow1 R1 g1 q1 ru⟩
    unfold atI
    rw [r'.length, h5]
    exact hu
  · cases ee⟩
/-! ### the law -/
theorem law_end {P : Program} {w : World} {mg : Str → Option Value} {base : Heap} {k : Nat} {f : Addr} {fd : FuncData} {g : FSem} {x : Str} (F : FnOk P w KC.K mg base CX0 k f fd [x] (spI E0 g 1)) (h : ∀ ns : List Int, ns.length ≤ 63 → ∃ outs, g [.ext true 2 (.tuple (ns.map PyData.int))] = some (.pur (.bool true), outs)) :
    FnOk P w KC.K mg base CX0 k f fd [x] (fun vs H Q _ => ∃ (a : Addr) (ns : List Int), vs = [.ref a] ∧ ns.length ≤ 63 ∧ SqL KC.K H a (ns.map V.int) ∧ ∀ v H', v = .bl true → Q v H') :=
  F.imp fun vs H Q E ⟨a, ns, e, hl, hs, q⟩ => by
    subst e
    obtain ⟨outs, ho⟩ := h ns hl
    refine ⟨rfl, H, H, fun _ => none, _, _, outs, Ex.refl _, Ex.refl _, (fun a i z => nomatch z), rfl, fun i s e => ?_, ho, fun v F' H' ow' T => q v H' ?_⟩
    · cases i with
      | zero => cases e; exact ⟨rfl, _, rfl, .inr (.inl ⟨a, _, _, rfl, hs, RpA.ints ns, rfl⟩)⟩
      | succ i => simp at e
    · obtain ⟨S, _, hs⟩ := T.res
      cases hs
      rfl
end
end IX

/-! text IX17 -/
set_option maxHeartbeats 1000000
namespace IX
open PySem PySem.Spec PyProof.Rows L2
theorem hu_of {k : Nat} {A : Around} (r : Room k A) : A.units + 64 < cLine := by have := r.un; omega
theorem bt_int : bootBuiltins "int" = some (.type "int") := by decide +kernel
theorem bt_list : bootBuiltins "list" = some (.type "list") := by decide +kernel
theorem bt_tuple : bootBuiltins "tuple" = some (.type "tuple") := by decide +kernel
theorem bt_len : bootBuiltins "len" = some (.builtin "len") := by decide +kernel
theorem bt_max : bootBuiltins "max" = some (.builtin "max") := by decide +kernel
theorem bt_min : bootBuiltins "min" = some (.builtin "min") := by decide +kernel
theorem bt_sum : bootBuiltins "sum" = some (.builtin "sum") := by decide +kernel
theorem bt_repr : bootBuiltins "repr" = some (.builtin "repr") := by decide +kernel
theorem bt_abs : bootBuiltins "abs" = some (.builtin "abs") := by decide +kernel
instance kx_nox [KC] {CX : CXT} {P : Program} {w : World} {mg : Str → Option Value} {base : Heap} {N : List Str} {qual : Str} {scope : Scope} {f : Addr} {cd : Value} {A : Around} {outer : List Env} {s : Shared} {H : Hp} {XE : XK} : KX (cxOf CX P w KC.K mg base N qual scope f cd A outer s H XE).nox := ⟨rfl⟩
variable [KC]
section
variable {E : ExtK} {X : Cx} [KX X] {e : Expr} {pos : Pos} {x : Str}
/-- a scalar or a tuple, not a list -/
def evNL (ev : EvB) : EvB := fun env => match ev env with
  | some (.list _, _) => none
  | o => o
theorem SB.spS {q st : Bool} {ev : EvB} (h : SB E X e q st ev) : SP E X e q (evNL ev) := ⟨fun fr => (h.pe fr).weak fun σ H Q ⟨F, ow, env, d, env', R, ee, k⟩ => by
  unfold evNL at ee
  split at ee
  · cases ee
  · rename_i n
    refine ⟨F, ow, env, d, env', R, ee, fun v F' H' ow' R' g hq rv => k v F' H' ow' R' g hq ?_⟩
    rcases rv with rv | ⟨p, vs, ds, _, e2, _⟩
    · exact rv
    · subst e2; exact absurd ee (n _ _)⟩
theorem sp_gc {d : PyData} (hg : Gl X x) (h : ∃ u, X.mg x = some u ∧ Dat u d) (hdb : (x == ("__debug__" : Str)) = false := by decide) : SP E X (.Name x pos) true (evC d) := by
  obtain ⟨u, h1, h2⟩ := h
  exact sp_gdat hg h1 h2 hdb
end
end IX
namespace IX
open PySem PySem.Spec PyProof.Rows L2
/-! ### the head -/
/-- a constant of the module -/
def cstB (K : PySem.W.Frag) (x : Str) (d : PyData) : Bool := match PySem.W.nsIn K mainGlobals x with
  | some (some v) => datB K 12 v d
  | _ => false
theorem cst_ok [KC] {h : Heap} {mg : Str → Option Value} {x : Str} {d : PyData} (X : KC.K.In h) (G : h.Ns mainGlobals mg) (c : cstB KC.K x d = true) : ∃ u, mg x = some u ∧ Dat u d := by
  unfold cstB at c
  split at c
  · rename_i v e
    exact ⟨v, PySem.W.mg_of X G e, datB_dat c⟩
  · cases c
def dctB' (K : PySem.W.Frag) (x : Str) (tab : List (Str × PyData)) : Bool := dictB K 12 (He.ga K x) tab
theorem dct_ok [KC] {h : Heap} {mg : Str → Option Value} {w : World} {x : Str} {es : Array DictEntry} {n : Nat} {tab : List (Str × PyData)} (X : KC.K.In h) (G : h.Ns mainGlobals mg) (g : (He.Fa.glo x).ok KC.K = true) (D : KDict KC.K w (He.ga KC.K x) es n) (c : dctB' KC.K x tab = true) : KD mg KC.K w x tab :=
  kd_of (He.glo_ok X G g) D c
theorem allB {α : Type} {p : α → Bool} {l : List α} (h : l.all p = true) {a : α} (i : Nat) (e : l[i]? = some a) : p a = true := List.all_eq_true.mp h a (List.mem_of_getElem? e)
end IX

/-! text IX18 -/
set_option maxHeartbeats 1000000
namespace IX
open PySem
/-! ### values in plain Lean: what the pieces give, for simp -/
section
variable {env : SEnv} {i j n : Nat} {d e : PyData} {ds es : List PyData} {a b : EvB} {ea eb : EvE} {ta tb : EvT} {x y : EvS} {r s : Slot}
@[simp] theorem e_C : evC d env = some (d, env) := rfl
@[simp] theorem e_L : evL i env = (match env[i]? with
  | some (.pur d) => some (d, env)
  | some (.own _ ds) => some (.list ds, env)
  | _ => none) := rfl
@[simp] theorem e_V : evV i env = (match env[i]? with
  | some (.pur d) => some (d, env)
  | some (.own false ds) => some (.list ds, env.set i (.pur (.list ds)))
  | _ => none) := rfl
@[simp] theorem e_M : evM i env = (match env[i]? with
  | some (.pur d) => some (.pur d, env)
  | some (.own false ds) => some (.own false ds, env.set i .und)
  | some (.ext false t g) => some (.ext false t g, env.set i .und)
  | _ => none) := rfl
@[simp] theorem e_Fz : evFz ea env = (match ea env with
  | some (.pur d, env') => some (d, env')
  | some (.own false ds, env') => some (.list ds, env')
  | _ => none) := rfl
@[simp] theorem e_Pu : evPu a env = (match a env with
  | some (d, env') => some (.pur d, env')
  | none => none) := rfl
@[simp] theorem e_NL : evNL a env = (match a env with
  | some (.list _, _) => none
  | o => o) := rfl
@[simp] theorem e_Tr : evTr ea env = (match ea env with
  | some (.pur (.bool k), env') => some (k, env')
  | _ => none) := rfl
@[simp] theorem e_Bo : evBo ta env = (ta env).map fun p => (.bool p.1, p.2) := rfl
@[simp] theorem e_Bin {f : PyData → PyData → Option Slot} : evBin f a b env = (a env).bind fun p => (b p.2).bind fun q => (f p.1 q.1).map fun r => (r, q.2) := rfl
@[simp] theorem e_Un {f : PyData → Option Slot} : evUn f a env = (a env).bind fun p => (f p.1).map fun r => (r, p.2) := rfl
@[simp] theorem e_And : evAnd ta tb env = (ta env).bind fun p => if p.1 = true then tb p.2 else some (false, p.2) := rfl
@[simp] theorem e_Or : evOr ta tb env = (ta env).bind fun p => if p.1 = true then some (true, p.2) else tb p.2 := rfl
@[simp] theorem e_Not : evNot ta env = (ta env).map fun p => (!p.1, p.2) := rfl
@[simp] theorem e_If {t : EvT} : evIf t ea eb env = (t env).bind fun p => if p.1 = true then ea p.2 else eb p.2 := rfl
@[simp] theorem e_Nil : evNil env = some ([], env) := rfl
@[simp] theorem e_Cons {l : EvA} : evCons a l env = (a env).bind fun p => (l p.2).map fun q => (p.1 :: q.1, q.2) := rfl
@[simp] theorem e_Star {l : EvA} : evStar a l env = (a env).bind fun p => (itemsD p.1).bind fun ds => (l p.2).map fun q => (ds ++ q.1, q.2) := rfl
@[simp] theorem itemsD_l : itemsD (.list ds) = some ds := rfl
@[simp] theorem itemsD_t : itemsD (.tuple ds) = some ds := rfl
@[simp] theorem e_Tup {l : EvA} : evTup l env = (l env).bind fun p => if p.1.length ≤ sizeLine then some (.tuple p.1, p.2) else none := rfl
@[simp] theorem e_Lst {l : EvA} : evLst l env = (l env).bind fun p => if p.1.length ≤ sizeLine then some (.own false p.1, p.2) else none := rfl
@[simp] theorem e_idx_l {k : Int} : fIdx (.list ds) (.int k) = (L2.atI ds k).map .pur := rfl
@[simp] theorem e_idx_t {k : Int} : fIdx (.tuple ds) (.int k) = (L2.atI ds k).map .pur := rfl
@[simp] theorem e_idx_s {z : Str} {k : Int} : fIdx (.str z) (.int k) = (if z.length ≤ sizeLine then (L2.atI z.cps.toList k).map fun c => .pur (.str ⟨#[c]⟩) else none) := rfl
@[simp] theorem e_No : evNo env = some (none, env) := rfl
@[simp] theorem e_Part : evPart a env = (match a env with
  | some (.int i, env') => some (some i, env')
  | _ => none) := rfl
@[simp] theorem e_Sl {l h : EvO} : evSl a l h env = (a env).bind fun p => (l p.2).bind fun q => (h q.2).bind fun r => (fSl p.1 q.1 r.1).map fun s => (s, r.2) := rfl
@[simp] theorem e_sl_l {lo hi : Option Int} : fSl (.list ds) lo hi = some (.own false (cutD ds lo hi)) := rfl
@[simp] theorem e_Blt {f : List PyData → Option Slot} {l : EvA} : evBlt f l env = (l env).bind fun p => (f p.1).map fun r => (r, p.2) := rfl
@[simp] theorem e_Mt {T : String} {f : PyData → List PyData → Option Slot} {l : EvA} : evMt T f a l env = (a env).bind fun p => if tyD T p.1 = true then (l p.2).bind fun q => (f p.1 q.1).map fun r => (r, q.2) else none := rfl
@[simp] theorem e_addI {i j : Int} : opAdd (.int i) (.int j) = some (.pur (.int (i + j))) := rfl
@[simp] theorem e_addS {i j : Str} : fAddS (.str i) (.str j) = (if i.length + j.length ≤ sizeLine then some (.pur (.str (i ++ j))) else none) := by first | rfl | (unfold fAddS; rfl)
@[simp] theorem e_subI {i j : Int} : opSub (.int i) (.int j) = some (.pur (.int (i - j))) := rfl
@[simp] theorem e_modI {i j : Int} : opMod (.int i) (.int j) = (if 0 < j then some (.pur (.int (i % j))) else none) := by
  show (if decide (0 < j) = true then _ else _) = _
  simp
@[simp] theorem e_fdivI {i j : Int} : opFdiv (.int i) (.int j) = (if divOk i j = true then some (.pur (.int (i / j))) else none) := rfl
@[simp] theorem e_mulI {i j : Int} : opMul (.int i) (.int j) = (if mulOk i j = true then some (.pur (.int (i * j))) else none) := by
  unfold opMul orF fIIc
  split <;> rename_i h
  · rw [← h]
  · by_cases z : mulOk i j = true
    · simp only [z, if_true] at h; cases h
    · rw [if_neg z]; rfl
@[simp] theorem e_mulS {i : Str} {j : Int} : opMul (.str i) (.int j) = (if -(2 ^ 62) ≤ j ∧ j < 2 ^ 62 ∧ i.length * j.toNat ≤ sizeLine then some (.pur (.str (repS i j))) else none) := by
  unfold opMul orF fIIc
  by_cases z : -(2 ^ 62) ≤ j ∧ j < 2 ^ 62 ∧ i.length * j.toNat ≤ sizeLine
  · simp only [fRepS, if_pos z]
  · simp only [fRepS, if_neg z, fRepL]
@[simp] theorem e_mulL {ds : List PyData} {j : Int} : opMul (.list ds) (.int j) = (if -(2 ^ 62) ≤ j ∧ j < 2 ^ 62 ∧ ds.length * j.toNat ≤ sizeLine then some (.own false (List.replicate j.toNat ds).flatten) else none) := rfl
@[simp] theorem e_powI {i j : Int} : opPow (.int i) (.int j) = (if powOk i j = true then some (.pur (.int (i ^ j.toNat))) else none) := rfl
@[simp] theorem e_addSS {i j : Str} : opAdd (.str i) (.str j) = (if i.length + j.length ≤ sizeLine then some (.pur (.str (i ++ j))) else none) := by
  unfold opAdd orF fII
  by_cases z : i.length + j.length ≤ sizeLine
  · simp only [fAddS, if_pos z]
  · simp only [fAddS, if_neg z, fCat, fCatT]
@[simp] theorem e_addLL {i j : List PyData} : opAdd (.list i) (.list j) = (if i.length + j.length ≤ sizeLine then some (.own false (i ++ j)) else none) := by
  unfold opAdd orF fII
  by_cases z : i.length + j.length ≤ sizeLine
  · simp only [fAddS, fCat, if_pos z]
  · simp only [fAddS, fCat, if_neg z, fCatT]
@[simp] theorem e_addTT {i j : List PyData} : opAdd (.tuple i) (.tuple j) = (if i ≠ [] ∧ i.length + j.length ≤ sizeLine then some (.pur (.tuple (i ++ j))) else none) := by
  unfold opAdd orF fII
  simp only [fAddS, fCat, fCatT]
@[simp] theorem e_iaddI {i j : Int} : orF (fII fun i j => i + j) fAddS (.int i) (.int j) = some (.pur (.int (i + j))) := rfl
@[simp] theorem e_iaddS {i j : Str} : orF (fII fun i j => i + j) fAddS (.str i) (.str j) = fAddS (.str i) (.str j) := rfl
@[simp] theorem e_imulI {i j : Int} : fIIc mulOk (fun i j => i * j) (.int i) (.int j) = (if mulOk i j = true then some (.pur (.int (i * j))) else none) := rfl
theorem orF_l {f g : PyData → PyData → Option Slot} {r : Slot} (h : f d e = some r) : orF f g d e = some r := by unfold orF; rw [h]
theorem orF_r {f g : PyData → PyData → Option Slot} (h : f d e = none) : orF f g d e = g d e := by unfold orF; rw [h]
@[simp] theorem e_ltI {i j : Int} : opLt (.int i) (.int j) = some (.pur (.bool (decide (i < j)))) := rfl
@[simp] theorem e_leI {i j : Int} : opLe (.int i) (.int j) = some (.pur (.bool (decide (i ≤ j)))) := rfl
@[simp] theorem e_gtI {i j : Int} : opGt (.int i) (.int j) = some (.pur (.bool (decide (j < i)))) := rfl
@[simp] theorem e_geI {i j : Int} : opGe (.int i) (.int j) = some (.pur (.bool (decide (j ≤ i)))) := rfl
theorem e_eq_sc (h : scalD d e = true) : opEq d e = some (.pur (.bool (PyData.eqv d e))) := orF_l (by unfold fEq1; rw [if_pos h])
theorem e_ne_sc (h : scalD d e = true) : opNe d e = some (.pur (.bool (!PyData.eqv d e))) := orF_l (by unfold fNe1; rw [if_pos h])
theorem e_eq_sh (h : (SeqAt.shaped d && SeqAt.shaped e) = true) : opEq d e = some (.pur (.bool (PyData.eqv d e))) := by
  by_cases z : scalD d e = true
  · exact e_eq_sc z
  · exact (orF_r (by unfold fEq1; rw [if_neg z])).trans (by unfold fEq2; rw [if_pos h])
theorem e_ne_sh (h : (SeqAt.shaped d && SeqAt.shaped e) = true) : opNe d e = some (.pur (.bool (!PyData.eqv d e))) := by
  by_cases z : scalD d e = true
  · exact e_ne_sc z
  · exact (orF_r (by unfold fNe1; rw [if_neg z])).trans (by unfold fNe2; rw [if_pos h])
@[simp] theorem e_eqI {i j : Int} : opEq (.int i) (.int j) = some (.pur (.bool (i == j))) := (e_eq_sc rfl).trans (by rw [PyData.eqv])
@[simp] theorem e_eqS {i j : Str} : opEq (.str i) (.str j) = some (.pur (.bool (i == j))) := (e_eq_sc rfl).trans (by rw [PyData.eqv])
@[simp] theorem e_eqB {i j : Bool} : opEq (.bool i) (.bool j) = some (.pur (.bool (i == j))) := (e_eq_sc rfl).trans (by rw [PyData.eqv])
@[simp] theorem e_neI {i j : Int} : opNe (.int i) (.int j) = some (.pur (.bool (!(i == j)))) := (e_ne_sc rfl).trans (by rw [PyData.eqv])
@[simp] theorem e_neS {i j : Str} : opNe (.str i) (.str j) = some (.pur (.bool (!(i == j)))) := (e_ne_sc rfl).trans (by rw [PyData.eqv])
@[simp] theorem e_neB {i j : Bool} : opNe (.bool i) (.bool j) = some (.pur (.bool (!(i == j)))) := (e_ne_sc rfl).trans (by rw [PyData.eqv])
@[simp] theorem e_neNI {j : Int} : opNe .none (.int j) = some (.pur (.bool true)) := (e_ne_sc rfl).trans (by rw [PyData.eqv]; rfl)
@[simp] theorem e_eqNI {j : Int} : opEq .none (.int j) = some (.pur (.bool false)) := (e_eq_sc rfl).trans (by rw [PyData.eqv])
@[simp] theorem e_eqIN {j : Int} : opEq (.int j) .none = some (.pur (.bool false)) := (e_eq_sc rfl).trans (by rw [PyData.eqv])
@[simp] theorem e_neg {i : Int} : fNeg (.int i) = some (.pur (.int (-i))) := rfl
@[simp] theorem e_lenL : cLen [.list ds] = some (.pur (.int (ds.length : Nat))) := rfl
@[simp] theorem e_lenT : cLen [.tuple ds] = some (.pur (.int (ds.length : Nat))) := rfl
@[simp] theorem e_lenS {z : Str} : cLen [.str z] = (if z.length ≤ sizeLine then some (.pur (.int (z.length : Nat))) else none) := rfl
@[simp] theorem e_abs {i : Int} : cAbs [.int i] = some (.pur (.int (if i < 0 then -i else i))) := rfl
@[simp] theorem e_max2 {i j : Int} : cMax2 [.int i, .int j] = some (.pur (.int (if j > i then j else i))) := rfl
@[simp] theorem e_min2 {i j : Int} : cMin2 [.int i, .int j] = some (.pur (.int (if j < i then j else i))) := rfl
@[simp] theorem e_intB {k : Bool} : cInt [.bool k] = some (.pur (.int (if k then 1 else 0))) := rfl
@[simp] theorem e_intI {k : Int} : cInt [.int k] = some (.pur (.int k)) := rfl
@[simp] theorem e_reprB {k : Bool} : cReprB [.bool k] = some (.pur (.str (if k then "True" else "False"))) := rfl
@[simp] theorem e_listL : cList [.list ds] = some (.own false ds) := rfl
@[simp] theorem e_listT : cList [.tuple ds] = some (.own false ds) := rfl
@[simp] theorem e_sumL : cSum2 [.list ds] = (intsD ds).map fun ns => .pur (.int ns.sum) := rfl
@[simp] theorem e_sumT : cSum2 [.tuple ds] = (intsD ds).map fun ns => .pur (.int ns.sum) := rfl
@[simp] theorem e_intsD : ∀ {ns : List Int}, intsD (ns.map PyData.int) = some ns
  | [] => rfl
  | n :: ns => by rw [List.map_cons, intsD, e_intsD]; rfl
@[simp] theorem e_intsD0 : intsD [] = some [] := rfl
@[simp] theorem e_intsD1 {i : Int} : intsD (.int i :: ds) = (intsD ds).map (i :: ·) := rfl
@[simp] theorem e_min1T : cMin1 [.tuple ds] = (intsD ds).bind fun ns => (foldMin ns).map fun m => .pur (.int m) := rfl
@[simp] theorem e_fmin0 : foldMin [] = none := rfl
@[simp] theorem e_fmin1 {i : Int} {ns : List Int} : foldMin (i :: ns) = some (ns.foldl min i) := rfl
@[simp] theorem e_TIdx {l m : EvA} : evTidx l m env = (evTup l env).bind fun p => (m p.2).bind fun q => (mTIdx p.1 q.1).map fun r => (r, q.2) := rfl
@[simp] theorem e_GetD {tab : List (Str × PyData)} {l : EvA} : evGetD tab l env = (match l env with
  | some ([.str z], env') => some ((tab.lookup z).getD .none, env')
  | some ([.str z, d], env') => some ((tab.lookup z).getD d, env')
  | _ => none) := rfl
@[simp] theorem e_ItD {tab : List (Str × PyData)} : evItD tab a env = (match a env with
  | some (.str z, env') => (tab.lookup z).map fun d => (d, env')
  | _ => none) := rfl
@[simp] theorem e_InD {t : Bool} {tab : List (Str × PyData)} : evInD t tab a env = (match a env with
  | some (.str z, env') => some (t == (tab.lookup z).isSome, env')
  | _ => none) := rfl
/-! statements -/
@[simp] theorem e_xNil : xNil env = some (.nxt env) := rfl
@[simp] theorem e_xNev : xNev env = none := rfl
@[simp] theorem e_xBrk : xBrk env = some (.brk env) := rfl
@[simp] theorem e_xCnt : xCnt env = some (.cnt env) := rfl
@[simp] theorem e_xSeq : xSeq x y env = (match x env with
  | some (.nxt e) => y e
  | o => o) := rfl
@[simp] theorem e_xDrop : xDrop ea env = (ea env).map fun p => .nxt p.2 := rfl
@[simp] theorem e_xRet : xRet ea env = (ea env).map fun p => .ret p.1 p.2 := rfl
@[simp] theorem e_xRetN : xRetN env = some (.ret (.pur .none) env) := rfl
@[simp] theorem e_xIf {t : EvT} : xIf t x y env = (t env).bind fun p => if p.1 = true then x p.2 else y p.2 := rfl
@[simp] theorem e_stS : stS i r env = (match env[i]? with
  | some s => if s.par = true then none else some (env.set i r)
  | none => none) := rfl
@[simp] theorem e_xSet : xSet i ea env = (ea env).bind fun p => (stS i p.1 p.2).map .nxt := rfl
@[simp] theorem e_gN : gN i d env = stS i (.pur d) env := rfl
@[simp] theorem e_gsN : gsN [] env = some env := rfl
@[simp] theorem e_gsC {g : PyData → SEnv → Option SEnv} {h : List PyData → SEnv → Option SEnv} : gsC g h (d :: ds) env = (g d env).bind fun e => h ds e := rfl
@[simp] theorem e_gT {h : List PyData → SEnv → Option SEnv} : gT n h (.tuple ds) env = if ds.length = n then h ds env else none := rfl
@[simp] theorem e_gL {h : List PyData → SEnv → Option SEnv} : gT n h (.list ds) env = if ds.length = n then h ds env else none := rfl
@[simp] theorem e_xSetT {g : PyData → SEnv → Option SEnv} : xSetT g a env = (a env).bind fun p => (g p.1 p.2).map .nxt := rfl
@[simp] theorem e_xAug {f : PyData → PyData → Option Slot} : xAug i f a env = (match env[i]? with
  | some (.pur d) => (a env).bind fun p => (f d p.1).bind fun r => (stS i r p.2).map .nxt
  | _ => none) := rfl
@[simp] theorem e_slN : slN env = some ([], env) := rfl
@[simp] theorem e_slC {l : EvSL} : slC ea l env = (ea env).bind fun p => (l p.2).map fun q => (p.1 :: q.1, q.2) := rfl
@[simp] theorem e_xPar {is : List Nat} {l : EvSL} : xPar is l env = (l env).bind fun p => if npAll p.2 is = true ∧ is.length = p.1.length then some (.nxt (setSl is p.1 p.2)) else none := rfl
@[simp] theorem e_np0 : npAll env [] = true := rfl
@[simp] theorem e_np1 {is : List Nat} : npAll env (i :: is) = ((match env[i]? with
  | some s => !s.par
  | none => false) && npAll env is) := rfl
@[simp] theorem e_set0 : setSl [] [] env = env := rfl
@[simp] theorem e_set1 {is : List Nat} {rs : List Slot} : setSl (i :: is) (r :: rs) env = setSl is rs (env.set i r) := rfl
@[simp] theorem e_par1 : Slot.par (.pur d) = false := rfl
@[simp] theorem e_par2 : Slot.par .und = false := rfl
@[simp] theorem e_par3 {b : Bool} : Slot.par (.own b ds) = b := rfl
@[simp] theorem e_par4 {b : Bool} {t : Nat} : Slot.par (.ext b t d) = b := rfl
@[simp] theorem e_xFor {it : EvA} {g : PyData → SEnv → Option SEnv} : xFor it g x env = (it env).bind fun p => forL g x p.1 p.2 := rfl
@[simp] theorem e_for0 {g : PyData → SEnv → Option SEnv} : forL g x [] env = some (.nxt env) := rfl
theorem e_for1 {g : PyData → SEnv → Option SEnv} : forL g x (d :: ds) env = (match g d env with
    | none => none
    | some e => match x e with
      | some (.nxt e') => forL g x ds e'
      | some (.cnt e') => forL g x ds e'
      | some (.brk e') => some (.nxt e')
      | some (.ret r e') => some (.ret r e')
      | none => none) := rfl
@[simp] theorem e_It : evIt a env = (a env).bind fun p => (itemsA p.1).map fun ds => (ds, p.2) := rfl
@[simp] theorem itemsA_l : itemsA (.list ds) = some ds := rfl
@[simp] theorem itemsA_t : itemsA (.tuple ds) = some ds := rfl
@[simp] theorem itemsA_s {z : Str} : itemsA (.str z) = some (charsD z) := rfl
@[simp] theorem e_Iter {f : List PyData → Option (List PyData)} {l : EvA} : evIter f l env = (l env).bind fun p => (f p.1).map fun ds => (ds, p.2) := rfl
@[simp] theorem e_rng1 {k : Int} : cRange1 [.int k] = (if -(2 ^ 62) ≤ k ∧ k < 2 ^ 62 then some (rangeD 0 k.toNat) else none) := rfl
@[simp] theorem e_rng2 {k l : Int} : cRange2 [.int k, .int l] = (if -(2 ^ 62) ≤ k ∧ k < 2 ^ 62 ∧ -(2 ^ 62) ≤ l ∧ l < 2 ^ 62 then some (rangeD k (l - k).toNat) else none) := rfl
@[simp] theorem e_own {b : Bool} (h : env[i]? = some (.own b ds)) : ownAt env i = some (b, ds) := by unfold ownAt; rw [h]
theorem ownAt_def : ownAt env i = (match env[i]? with
  | some (.own b ds) => some (b, ds)
  | _ => none) := rfl
@[simp] theorem e_Mut {f : List PyData → List PyData → Option (PyData × List PyData)} {l : EvA} : evMut i f l env = (ownAt env i).bind fun _ => (l env).bind fun p => (ownAt p.2 i).bind fun o => (f o.2 p.1).map fun q => (q.1, p.2.set i (.own o.1 q.2)) := rfl
@[simp] theorem e_app : mAppend ds [d] = (if ds.length < sizeLine then some (.none, ds ++ [d]) else none) := rfl
@[simp] theorem e_pop : mPop ds [] = (ds.getLast?.map fun d => (d, ds.dropLast)) := by cases ds <;> rfl
@[simp] theorem e_popI {k : Int} : mPop ds [.int k] = (if -(2 ^ 63) ≤ k ∧ k < 2 ^ 63 then (L2.ixN ds.length k).bind fun k => ds[k]?.map fun d => (d, ds.eraseIdx k) else none) := by cases ds <;> rfl
@[simp] theorem e_xSetI : xSetI i a b env = (a env).bind fun p => (ownAt p.2 i).bind fun _ => (b p.2).bind fun q => match q.1 with
  | .int k => (ownAt q.2 i).bind fun o => (L2.ixN o.2.length k).map fun j => .nxt (q.2.set i (.own o.1 (o.2.set j p.1)))
  | _ => none := rfl
theorem boxAt_def {t : Nat} : boxAt t env i = (match env[i]? with
  | some (.ext b t' (.list ds)) => if t' = t then some (b, ds) else none
  | _ => none) := rfl
theorem scrAt_def : scrAt env i = (match env[i]? with
  | some (.ext _ _ (.tuple ds)) => some ds
  | _ => none) := rfl
@[simp] theorem e_Bx {t : Nat} : evBx t i j env = (boxAt t env i).bind fun p => (p.2[j]?).map fun d => (d, env) := rfl
@[simp] theorem e_xBxSet {t : Nat} : xBxSet t i j a env = (a env).bind fun p => (boxAt t p.2 i).bind fun q => if isL p.1 = false ∧ j < q.2.length then some (.nxt (p.2.set i (.ext q.1 t (.list (q.2.set j p.1))))) else none := rfl
@[simp] theorem e_xBxAug {f : PyData → PyData → Option Slot} : xBxAug i j f a env = (boxAt 1 env i).bind fun q0 => (q0.2[j]?).bind fun d0 => if isL d0 = true then none else (a env).bind fun p => match f d0 p.1 with
  | some (.pur d) => (boxAt 1 p.2 i).bind fun q => if isL d = false ∧ j < q.2.length then some (.nxt (p.2.set i (.ext q.1 1 (.list (q.2.set j d))))) else none
  | _ => none := rfl
@[simp] theorem e_BxMut {t : Nat} {f : List PyData → List PyData → Option (PyData × List PyData)} {l : EvA} : evBxMut t i j f l env = (boxAt t env i).bind fun p0 => match p0.2[j]? with
  | some (.list _) => (l env).bind fun p => (boxAt t p.2 i).bind fun q => match q.2[j]? with
    | some (.list es) => (f es p.1).map fun r => (r.1, p.2.set i (.ext q.1 t (.list (q.2.set j (.list r.2)))))
    | _ => none
  | _ => none := rfl
@[simp] theorem isL_i {k : Int} : isL (.int k) = false := rfl
@[simp] theorem isL_l : isL (.list ds) = true := rfl
@[simp] theorem e_BoxD {k : Nat} : evBoxD i k env = (match env[i]?, env[k]? with
  | some (.own false ds), some (.pur (.int n)) => some (.ext false 1 (.list [.list ds, .int 0, .int 0, .int n]), env.set i .und)
  | _, _ => none) := rfl
@[simp] theorem e_BoxL {l : EvA} : evBoxL i l env = (ownAt env i).bind fun _ => (l env).bind fun p => (ownAt p.2 i).bind fun q => if q.1 = false ∧ p.1.all (fun d => !isL d) = true ∧ p.1.length < sizeLine then some (.ext false 0 (.list (.list q.2 :: p.1)), p.2.set i .und) else none := rfl
@[simp] theorem e_ScLen : evScLen i env = (scrAt env i).map fun ds => (.int (ds.length : Nat), env) := rfl
@[simp] theorem e_ScIt : evScIt i env = (scrAt env i).map fun ds => (ds, env) := rfl
@[simp] theorem e_ScSl {l h : EvO} : evScSl i l h env = (scrAt env i).bind fun ds => (l env).bind fun q => (h q.2).bind fun r => (fSl (.list ds) q.1 r.1).map fun s => (s, r.2) := rfl
/-! calls -/
@[simp] theorem e_arN : arN env = some ([], env) := rfl
@[simp] theorem e_arV {t : EvR} : arV a t env = (a env).bind fun p => (t p.2).map fun q => (.val p.1 :: q.1, q.2) := rfl
@[simp] theorem e_arR {t : EvR} : arR i t env = (match env[i]? with
  | some s => if s.isObj = true then (t env).map fun q => (.ref i :: q.1, q.2) else none
  | none => none) := rfl
@[simp] theorem e_Call {f : FSem} {t : EvR} : evCall f t env = (t env).bind fun p => if refsOk p.1 = true then (argSs p.2 p.1).bind fun ss => (f ss).bind fun q => (backS p.1 q.2 p.2).map fun e => (q.1, e) else none := rfl
@[simp] theorem e_CallK {f : FSem} {is : List Nat} {t u : EvR} : evCallK f is t u env = (evCall f fun env => (t env).bind fun p => (u p.2).map fun q => (pick (p.1 ++ q.1) is, q.2)) env := rfl
@[simp] theorem e_pick0 {α : Type} {l : List α} : pick l [] = [] := rfl
@[simp] theorem e_pick1 {α : Type} {l : List α} {i : Nat} {is : List Nat} : pick l (i :: is) = (match l[i]? with
    | some a => a :: pick l is
    | none => pick l is) := rfl
@[simp] theorem e_isObj1 {b : Bool} : Slot.isObj (.own b ds) = true := rfl
@[simp] theorem e_isObj2 {b : Bool} {t : Nat} : Slot.isObj (.ext b t d) = true := rfl
@[simp] theorem e_argSs0 : argSs env [] = some [] := rfl
@[simp] theorem e_argSsV {as : List Arg} : argSs env (.val d :: as) = (argSs env as).map (.pur d :: ·) := rfl
@[simp] theorem e_argSsR {as : List Arg} : argSs env (.ref j :: as) = (match env[j]? with
    | some (.own _ ds) => some (Slot.own true ds)
    | some (.ext _ t g) => some (Slot.ext true t g)
    | _ => none).bind fun s => (argSs env as).map (s :: ·) := rfl
@[simp] theorem e_refs0 : refsOk [] = true := rfl
@[simp] theorem e_refsV {as : List Arg} : refsOk (.val d :: as) = refsOk as := rfl
@[simp] theorem e_refsR {as : List Arg} : refsOk (.ref j :: as) = ((refIx as j).isNone && refsOk as) := rfl
@[simp] theorem e_ix0 : refIx [] j = none := rfl
@[simp] theorem e_ixV {as : List Arg} : refIx (.val d :: as) j = (refIx as j).map (· + 1) := rfl
@[simp] theorem e_ixR {as : List Arg} : refIx (.ref i :: as) j = (if i = j then some 0 else (refIx as j).map (· + 1)) := rfl
@[simp] theorem e_back0 {os : List Slot} : backS [] os env = some env := rfl
@[simp] theorem e_backV {as : List Arg} {o : Slot} {os : List Slot} : backS (.val d :: as) (o :: os) env = backS as os env := rfl
@[simp] theorem e_backR {as : List Arg} {o : Slot} {os : List Slot} : backS (.ref j :: as) (o :: os) env = (match env[j]?, o with
    | some (.own p _), .own true ds => backS as os (env.set j (.own p ds))
    | some (.ext p _ _), .ext true t g => backS as os (env.set j (.ext p t g))
    | some (.own p _), .ext true t g => backS as os (env.set j (.ext p t g))
    | some (.ext p _ _), .own true ds => backS as os (env.set j (.own p ds))
    | _, _ => none) := rfl
theorem runDef_def {N : Nat} {args : List Slot} : runDef N x args = (match x (args ++ List.replicate (N - args.length) .und) with
  | some (.ret r e) => (outsOf args e).map fun os => (r, os)
  | some (.nxt e) => (outsOf args e).map fun os => (.pur .none, os)
  | _ => none) := rfl
@[simp] theorem e_outs0 : outsOf [] env = some [] := rfl
@[simp] theorem e_outs1 {as : List Slot} {s t : Slot} {es : SEnv} : outsOf (s :: as) (t :: es) = (if s.par = true then (if t.par = true then (outsOf as es).map (t :: ·) else none) else (outsOf as es).map (.und :: ·)) := rfl
/-! comprehensions -/
@[simp] theorem e_Comp {vs : List Nat} {it : EvA} {g : PyData → SEnv → Option SEnv} {t : EvT} : evComp vs it g t a env = (it env).bind fun p => (compL vs g t a p.1 (wipeE p.2 vs) []).map fun q => (.own false q.1, q.2) := rfl
@[simp] theorem e_comp0 {vs : List Nat} {g : PyData → SEnv → Option SEnv} {t : EvT} {acc : List PyData} : compL vs g t a [] env acc = some (acc, env) := rfl
theorem e_comp1 {vs : List Nat} {g : PyData → SEnv → Option SEnv} {t : EvT} {acc : List PyData} : compL vs g t a (d :: ds) env acc = (g d env).bind fun e1 => (t e1).bind fun p => if p.1 = true then (a p.2).bind fun q => if acc.length < sizeLine then compL vs g t a ds (wipeE q.2 vs) (acc ++ [q.1]) else none
      else compL vs g t a ds (wipeE p.2 vs) acc := rfl
@[simp] theorem e_wipe0 : wipeE env [] = env := rfl
@[simp] theorem e_wipe1 {v : Nat} {vs : List Nat} : wipeE env (v :: vs) = (wipeE env vs).set v .und := rfl
@[simp] theorem e_Yes : evYes env = some (true, env) := rfl
end
/-! numbers -/
theorem mulOk_of {i j : Int} (a b : Nat) (h1 : i.natAbs < 2 ^ a) (h2 : j.natAbs < 2 ^ b) (h : a + b ≤ 1000000) (ha : 0 < a) (hb : 0 < b): mulOk i j = true := by
  unfold mulOk
  have l1 : i.natAbs.log2 < a := by
    by_cases z : i.natAbs = 0
    · rw [z]; simpa using ha
    · exact (Nat.log2_lt z).mpr h1
  have l2 : j.natAbs.log2 < b := by
    by_cases z : j.natAbs = 0
    · rw [z]; simpa using hb
    · exact (Nat.log2_lt z).mpr h2
  exact decide_eq_true (by omega)
theorem divOk_of {i j : Int} (h : 0 < j) (h2 : j.natAbs < 2 ^ 9000) : divOk i j = true := by
  unfold divOk
  have : j.natAbs.log2 < 9000 := (Nat.log2_lt (by omega)).mpr h2
  simp [h, this]
theorem divOk_s {i j : Int} (h : 0 < j) (h2 : j.natAbs < 2 ^ 250) : divOk i j = true := by
  unfold divOk
  have : j.natAbs.log2 < 250 := (Nat.log2_lt (by omega)).mpr h2
  have : j.natAbs.log2 < 9000 := by omega
  simp [h, this]
theorem powOk_of {i : Int} {n : Nat} (a : Nat) (h : i.natAbs < 2 ^ a) (ha : 0 < a) (h2 : a * n ≤ 2 ^ 27) : powOk i n = true := by
  have hb : Builtin.Int.intBits i ≤ a := by
    unfold Builtin.Int.intBits
    by_cases z : i = 0
    · simp [z]
    · have : (i == 0) = false := by simpa using z
      rw [this]
      have : i.natAbs.log2 < a := (Nat.log2_lt (by omega)).mpr h
      simp; omega
  unfold powOk
  simp
  have : Builtin.Int.intBits i * n ≤ a * n := Nat.mul_le_mul_right _ hb
  have h3 : ((Builtin.Int.intBits i * n : Nat) : Int) ≤ ((2 ^ 27 : Nat) : Int) := by exact_mod_cast Nat.le_trans this h2
  simpa using h3
/-! loops -/
/-- a loop without an early end -/
theorem forL_all {g : PyData → SEnv → Option SEnv} {x : EvS} (I : List PyData → SEnv → Prop) (step : ∀ d ds env, I (d :: ds) env → ∃ e e', g d env = some e ∧ (x e = some (.nxt e') ∨ x e = some (.cnt e')) ∧ I ds e') :
    ∀ (ds : List PyData) (env : SEnv), I ds env → ∃ e', forL g x ds env = some (.nxt e') ∧ I [] e'
  | [], env, h => ⟨env, rfl, h⟩
  | d :: ds, env, h => by
    obtain ⟨e, e', h1, h2, h3⟩ := step d ds env h
    obtain ⟨e2, h4, h5⟩ := forL_all I step ds e' h3
    refine ⟨e2, ?_, h5⟩
    rw [e_for1, h1]
    rcases h2 with h2 | h2 <;> simp only [h2] <;> exact h4
/-- a loop that may end early: by break, by return -/
theorem forL_any {g : PyData → SEnv → Option SEnv} {x : EvS} (I : List PyData → SEnv → Prop) (Q : Out → Prop) (step : ∀ d ds env, I (d :: ds) env → ∃ e, g d env = some e ∧ ((∃ e', (x e = some (.nxt e') ∨ x e = some (.cnt e')) ∧ I ds e') ∨ (∃ e', x e = some (.brk e') ∧ Q (.nxt e')) ∨ ∃ r e', x e = some (.ret r e') ∧ Q (.ret r e')))
    (fin : ∀ env, I [] env → Q (.nxt env)) : ∀ (ds : List PyData) (env : SEnv), I ds env → ∃ o, forL g x ds env = some o ∧ Q o
  | [], env, h => ⟨_, rfl, fin env h⟩
  | d :: ds, env, h => by
    obtain ⟨e, h1, h2⟩ := step d ds env h
    rw [e_for1, h1]
    rcases h2 with ⟨e', h2, h3⟩ | ⟨e', h2, h3⟩ | ⟨r, e', h2, h3⟩
    · obtain ⟨o, h4, h5⟩ := forL_any I Q step fin ds e' h3
      refine ⟨o, ?_, h5⟩
      rcases h2 with h2 | h2 <;> simp only [h2] <;> exact h4
    · exact ⟨_, by simp only [h2], h3⟩
    · exact ⟨_, by simp only [h2], h3⟩
theorem compL_all {vs : List Nat} {g : PyData → SEnv → Option SEnv} {t : EvT} {a : EvB} (I : List PyData → SEnv → List PyData → Prop) (step : ∀ d ds env acc, I (d :: ds) env acc → ∃ e b e2, g d env = some e ∧ t e = some (b, e2) ∧ ((b = true ∧ acc.length < sizeLine ∧ ∃ y e3, a e2 = some (y, e3) ∧ I ds (wipeE e3 vs) (acc ++ [y])) ∨ (b = false ∧ I ds (wipeE e2 vs) acc))) :
    ∀ (ds : List PyData) (env : SEnv) (acc : List PyData), I ds env acc → ∃ e' res, compL vs g t a ds env acc = some (res, e') ∧ I [] e' res
  | [], env, acc, h => ⟨env, acc, rfl, h⟩
  | d :: ds, env, acc, h => by
    obtain ⟨e, b, e2, h1, h2, h3⟩ := step d ds env acc h
    rw [e_comp1, h1]
    rcases h3 with ⟨rfl, hl, y, e3, h4, h5⟩ | ⟨rfl, h5⟩
    · obtain ⟨e', res, h6, h7⟩ := compL_all I step ds _ _ h5
      exact ⟨e', res, by simp only [Option.bind_some, h2, if_true, h4, if_pos hl, h6], h7⟩
    · obtain ⟨e', res, h6, h7⟩ := compL_all I step ds _ _ h5
      exact ⟨e', res, by simp only [Option.bind_some, h2, Bool.false_eq_true, if_false, h6], h7⟩
/-- .. whose element is a function of the item, whose state stays -/
theorem compL_map {vs : List Nat} {g : PyData → SEnv → Option SEnv} {a : EvB} {env : SEnv} (f : PyData → PyData) : ∀ (ds : List PyData) (acc : List PyData), acc.length + ds.length ≤ sizeLine → (∀ d ∈ ds, ∃ e e3, g d env = some e ∧ a e = some (f d, e3) ∧ wipeE e3 vs = env) → compL vs g evYes a ds env acc = some (acc ++ ds.map f, env)
  | [], acc, _, _ => by simp
  | d :: ds, acc, hl, h => by
    obtain ⟨e, e3, h1, h2, h3⟩ := h d (by simp)
    rw [List.length_cons] at hl
    rw [e_comp1, h1]
    have := compL_map (env := env) f ds (acc ++ [f d]) (by simp; omega) fun d' hd => h d' (by simp [hd])
    simp only [Option.bind_some, e_Yes, if_true, h2, if_pos (show acc.length < sizeLine by omega), h3, this]
    simp
theorem compL_enc {α : Type} {vs : List Nat} {g : PyData → SEnv → Option SEnv} {a : EvB} {env : SEnv} (enc out : α → PyData) : ∀ (xs : List α) (acc : List PyData), acc.length + xs.length ≤ sizeLine → (∀ x ∈ xs, ∃ e e3, g (enc x) env = some e ∧ a e = some (out x, e3) ∧ wipeE e3 vs = env) → compL vs g evYes a (xs.map enc) env acc = some (acc ++ xs.map out, env)
  | [], acc, _, _ => by simp
  | d :: ds, acc, hl, h => by
    obtain ⟨e, e3, h1, h2, h3⟩ := h d (by simp)
    rw [List.length_cons] at hl
    rw [List.map_cons, e_comp1, h1]
    have := compL_enc (env := env) enc out ds (acc ++ [out d]) (by simp; omega) fun d' hd => h d' (by simp [hd])
    simp only [Option.bind_some, e_Yes, if_true, h2, if_pos (show acc.length < sizeLine by omega), h3, this]
    simp
theorem forL_enc {α : Type} (enc : α → PyData) {g : PyData → SEnv → Option SEnv} {x : EvS} (I : List α → SEnv → Prop) (step : ∀ d ds env, I (d :: ds) env → ∃ e e', g (enc d) env = some e ∧ (x e = some (.nxt e') ∨ x e = some (.cnt e')) ∧ I ds e') :
    ∀ (ds : List α) (env : SEnv), I ds env → ∃ e', forL g x (ds.map enc) env = some (.nxt e') ∧ I [] e'
  | [], env, h => ⟨env, rfl, h⟩
  | d :: ds, env, h => by
    obtain ⟨e, e', h1, h2, h3⟩ := step d ds env h
    obtain ⟨e2, h4, h5⟩ := forL_enc enc I step ds e' h3
    refine ⟨e2, ?_, h5⟩
    rw [List.map_cons, e_for1, h1]
    rcases h2 with h2 | h2 <;> simp only [h2] <;> exact h4
@[simp] theorem e_intsDl {α : Type} {f : α → Int} : ∀ {l : List α}, intsD (l.map fun x => PyData.int (f x)) = some (l.map f)
  | [] => rfl
  | n :: ns => by rw [List.map_cons, intsD, e_intsDl]; rfl
@[simp] theorem e_intsDc {α : Type} {f : α → Int} {l : List α} : intsD (l.map (PyData.int ∘ f)) = some (l.map f) := e_intsDl
/-! texts -/
@[simp] theorem str_inj {a b : String} : (Str.ofString a = Str.ofString b) = (a = b) := by
  rw [Str.ofString_eq_toList, Str.ofString_eq_toList]
  refine propext ⟨fun h => ?_, fun h => by rw [h]⟩
  have h1 : (a.toList.map Char.toNat).toArray = (b.toList.map Char.toNat).toArray := Str.mk.inj h
  have h2 : a.toList.map Char.toNat = b.toList.map Char.toNat := by simpa using h1
  have inj : ∀ (x y : List Char), x.map Char.toNat = y.map Char.toNat → x = y := by
    intro x
    induction x with
    | nil => intro y h; cases y with
      | nil => rfl
      | cons _ _ => cases h
    | cons c x ih => intro y h; cases y with
      | nil => cases h
      | cons d y =>
        rw [List.map_cons, List.map_cons] at h
        injection h with h3 h4
        rw [ih y h4, Char.toNat_inj.mp h3]
  exact String.toList_inj.mp (inj _ _ h2)
@[simp] theorem str_beq {a b : String} : (Str.ofString a == Str.ofString b) = (a == b) := by
  by_cases h : a = b
  · subst h; simp
  · have h2 : Str.ofString a ≠ Str.ofString b := by rw [Ne, str_inj]; exact h
    rw [beq_eq_false_iff_ne.mpr h2, beq_eq_false_iff_ne.mpr h]
section
variable {a b c d e : PyData}
@[simp] theorem sl_3_1 : fSl (.tuple [a, b, c]) (some 1) none = some (.pur (.tuple [b, c])) := rfl
@[simp] theorem sl_4_1 : fSl (.tuple [a, b, c, d]) (some 1) none = some (.pur (.tuple [b, c, d])) := rfl
@[simp] theorem sl_5_1 : fSl (.tuple [a, b, c, d, e]) (some 1) none = some (.pur (.tuple [b, c, d, e])) := rfl
@[simp] theorem sl_3_13 : fSl (.tuple [a, b, c]) (some 1) (some 3) = some (.pur (.tuple [b, c])) := rfl
@[simp] theorem sl_4_13 : fSl (.tuple [a, b, c, d]) (some 1) (some 3) = some (.pur (.tuple [b, c])) := rfl
@[simp] theorem sl_5_13 : fSl (.tuple [a, b, c, d, e]) (some 1) (some 3) = some (.pur (.tuple [b, c])) := rfl
@[simp] theorem sl_3_3 : fSl (.tuple [a, b, c]) (some 3) none = some (.pur (.tuple [])) := rfl
@[simp] theorem sl_4_3 : fSl (.tuple [a, b, c, d]) (some 3) none = some (.pur (.tuple [d])) := rfl
@[simp] theorem sl_5_3 : fSl (.tuple [a, b, c, d, e]) (some 3) none = some (.pur (.tuple [d, e])) := rfl
@[simp] theorem sl_4_4 : fSl (.tuple [a, b, c, d]) (some 4) none = some (.pur (.tuple [])) := rfl
@[simp] theorem sl_5_4 : fSl (.tuple [a, b, c, d, e]) (some 4) none = some (.pur (.tuple [e])) := rfl
end
/-- a while loop, by a measure -/
theorem whl_all {c : EvT} {x : EvS} (I : Nat → SEnv → Prop) (P : SEnv → Prop) (step : ∀ m env, I m env → ∃ b e1, c env = some (b, e1) ∧ (b = true → ∃ e2 m', (x e1 = some (.nxt e2) ∨ x e1 = some (.cnt e2)) ∧ m' < m ∧ I m' e2) ∧ (b = false → P e1)) :
    ∀ (m n : Nat) (env : SEnv), m < n → I m env → ∃ e, xWhl n c x env = some (.nxt e) ∧ P e := by
  intro m
  induction m using Nat.strongRecOn with
  | ind m ih =>
    intro n env hn h
    obtain ⟨b, e1, h1, h2, h3⟩ := step m env h
    cases n with
    | zero => omega
    | succ n =>
      cases b with
      | false => exact ⟨e1, by unfold xWhl whlN; simp [h1], h3 rfl⟩
      | true =>
        obtain ⟨e2, m', h4, h5, h6⟩ := h2 rfl
        obtain ⟨e, h7, h8⟩ := ih m' h5 n e2 (by omega) h6
        refine ⟨e, ?_, h8⟩
        unfold xWhl whlN
        rcases h4 with h4 | h4 <;> simp [h1, h4] <;> exact h7
/-! places -/
section
variable {α : Type} {a b c d e : α} {l : List α}
theorem atI_nat (l : List α) (k : Nat) : L2.atI l (k : Int) = l[k]? := by
  unfold L2.atI L2.ixN
  rw [if_pos (by omega)]
  by_cases h : (k : Int) < l.length
  · rw [if_pos h]; simp
  · rw [if_neg h]; simp; omega
@[simp] theorem at_0 : L2.atI (a :: l) 0 = some a := atI_nat _ 0
@[simp] theorem at_1 : L2.atI (a :: b :: l) 1 = some b := atI_nat _ 1
@[simp] theorem at_2 : L2.atI (a :: b :: c :: l) 2 = some c := atI_nat _ 2
@[simp] theorem at_3 : L2.atI (a :: b :: c :: d :: l) 3 = some d := atI_nat _ 3
@[simp] theorem at_4 : L2.atI (a :: b :: c :: d :: e :: l) 4 = some e := atI_nat _ 4
@[simp] theorem at_m1 : L2.atI (l ++ [a]) (-1) = some a := L2.atI_last l a
@[simp] theorem at_m1' : L2.atI [a] (-1) = some a := L2.atI_last [] a
@[simp] theorem ix_m1 {n : Nat} : L2.ixN (n + 1) (-1) = some n := by
  unfold L2.ixN
  rw [if_neg (by decide), if_pos (by omega)]
  congr 1; omega
@[simp] theorem ix_0 {n : Nat} : L2.ixN (n + 1) 0 = some 0 := by
  unfold L2.ixN
  rw [if_pos (by decide), if_pos (by omega)]
  rfl
end
end IX

/-! text IX19 -/
set_option maxHeartbeats 1000000
namespace L2
open PySem PySem.Spec PyProof.Rows
/-! ### enumerate of a text -/
def ItEs (x : Str) : It := ⟨fun i _ => i < x.cps.size, fun i H v H' => ∃ T c, v = .ref T ∧ H T = none ∧ H' = upd H T (.tup [.int (i : Nat), .str ⟨#[c]⟩]) ∧ x.cps[i]? = some c, fun i _ => x.cps.size ≤ i⟩
theorem drawsS {P : Program} {w : World} {A : Around} (hh : A.handled = none) (it : Addr) (x : Str) (t : Tok) :
    Draws P w A it [it] x.cps.size (fun i v => ∃ c u, x.cps[i]? = some c ∧ v = .str ⟨#[c]⟩ u) (fun i h => h.IsStrIter it (PySem.strIterType x) x t i) := by
  unfold PySem.strIterType
  split
  · exact Draws.strAscii hh it x t
  · exact Draws.strWide hh it x t
theorem turn_enumS {P : Program} {w : World} {K : PySem.W.Frag} {elts : List Expr} {kk : Nat} {tpos : Pos} (x : Str) (t : Tok) (e it : Addr) :
    Turn P w K (.Tuple elts kk tpos) (ItEs x) [e, it] e (fun i h => i ≤ x.cps.size ∧ (∃ old, IsEnum h e it ((i : Nat) : Int) old) ∧ h.IsStrIter it (PySem.strIterType x) x t i ∧ e ≠ it) where
  mem := by simp
  obj := fun i h st b hb => by
    obtain ⟨_, ⟨old, he⟩, ⟨o, ho, hc, hd⟩, _⟩ := st
    have e' : b = e ∨ b = it := by simpa using hb
    rcases e' with z | z
    · rw [z]; exact ⟨_, he, fun v q => nomatch q⟩
    · rw [z]; exact ⟨o, ho, fun v q => by rw [hd] at q; cases q⟩
  keep := fun i h h' st k => let ⟨hi0, ⟨old, he⟩, hi, hne⟩ := st; ⟨hi0, ⟨old, k e (by simp) _ he⟩, let ⟨o, ho, r⟩ := hi; ⟨o, k it (by simp) o ho, r⟩, hne⟩
  item := by
    intro X hP hw hK hc i pins s σ H E I hf st hg
    subst hP hw hK
    obtain ⟨hi0, ⟨old, he⟩, hit, hne⟩ := st
    have hg' : i < x.cps.size := hg
    have hel : e < s.heap.objs.size := Heap.lt_size he
    have hil : it < s.heap.objs.size := by obtain ⟨_, q, _⟩ := hit; exact Heap.lt_size q
    have D := drawsS (P := X.prog) (w := X.w) (A := X.A.in1) (I.ok.hd hc) it x t
    refine wpAny_pyNext_enum_itemD D he hit hg' hne (by simpa using hne) fun u h' tk ⟨c, u', hcx, hu⟩ ho hit' hT hsz hk => ?_
    subst hu
    refine ⟨_, rfl, wpAny_letOwnedTupleGo_enum (s := { s with heap := h', toks := tk + 1 }) ho fun h'' he' sb => ?_⟩
    have hT2 : h''.get? s.heap.objs.size = some { cls := .type "tuple", data := .seq #[.int i tk, .str ⟨#[c]⟩ u'] } := (sb.2 _ (Nat.ne_of_gt hel)).trans hT
    have new : ObjOk X.prog X.w (upd H s.heap.objs.size (.tup [.int (i : Nat), .str ⟨#[c]⟩])) h'' s.heap.objs.size (.tup [.int (i : Nat), .str ⟨#[c]⟩]) :=
      ⟨by show 2 ≤ sizeLine; decide, [.int i tk, .str ⟨#[c]⟩ u'], .cons ⟨_, rfl⟩ (.cons ⟨_, rfl⟩ .nil), ⟨_, hT2, rfl, _, rfl⟩⟩
    have I1 : Inv X pins σ (upd H s.heap.objs.size (.tup [.int (i : Nat), .str ⟨#[c]⟩])) { s with heap := h'', toks := tk + 1 } :=
      I.turnedNew (ch := [e, it]) (fun b ob hb q => (sb.2 b (fun z => hb (by simp [z]))).trans (hk b ob (fun z => hb (by simp [z])) (fun z => hb (by simp [z])) q)) hf (Nat.le_refl _) new
    refine ⟨.ref s.heap.objs.size, _, I1, rfl, ⟨_, c, rfl, I.hok.fresh (Nat.le_refl _), rfl, hcx⟩, ⟨hg', ⟨.str ⟨#[c]⟩ u', ?_⟩, ?_, hne⟩, fun b hb => ?_⟩
    · have e1 : ((i + 1 : Nat) : Int) = (i : Int) + 1 := by omega
      rw [e1]; exact he'
    · obtain ⟨o, ho2, r⟩ := hit'
      exact ⟨o, (sb.2 it (Ne.symm hne)).trans ho2, r⟩
    · have hb' : b < s.heap.objs.size := by
        have e' : b = e ∨ b = it := by simpa using hb
        rcases e' with z | z
        · rw [z]; exact hel
        · rw [z]; exact hil
      rw [upd_ne (Nat.ne_of_lt hb')]
      exact (hf b hb).1
  done := by
    intro X hP hw hK hc i pins s σ H E I hf st hg
    subst hP hw hK
    obtain ⟨hi0, ⟨old, he⟩, hit, hne⟩ := st
    have hg' : x.cps.size ≤ i := hg
    have hi : i = x.cps.size := Nat.le_antisymm hi0 hg'
    obtain ⟨f0, f1, f2, f3, f4, f5⟩ := hf it (by simp)
    have D := drawsS (P := X.prog) (w := X.w) (A := X.A.in1) (I.ok.hd hc) it x t
    rw [hi] at he hit
    exact wpAny_pyNext_enum_endD D he hit fun h' eb => ⟨rfl, I.turned (t' := s.toks) (fun b o hb q => eb b o hb q) f0 f1 f3 f4 f5⟩
  self := fun A i s Q E st h => let ⟨_, ⟨_, he⟩, _⟩ := st; wpAny_pyIter_enum he h
def iEnumS (ta : TA) : TI := fun σ H R => ta σ H fun vs H1 => ∃ x, vs = [.str x] ∧ R (ItEs x) H1
theorem pi_enumS {X : Cx} {e : Expr} {ta : TA} {p pos tpos : Pos} {elts : List Expr} {kk : Nat} (hg : Gl X "enumerate") (hm : X.mg "enumerate" = none) (ha : PA X [e] ta) (hs : starEach [e] X.env = [(false, eval e X.env)] := by rfl) :
    PI X (.Tuple elts kk tpos) (.Call (.Name "enumerate" p) [e] [] pos) (iEnumS ta) := by
  refine ⟨fun pins s σ H R I h => ?_⟩
  refine Call_ (ld_blt I hg hm boot_enumerate (PyProof.Rows.callWith_type1 (thn (ha.run pos pins s σ H _ I h) fun us s1 ⟨vs, H1, I1, r1, q1⟩ => ?_) hs rfl))
  obtain ⟨x, ex, q⟩ := q1
  subst ex
  cases r1 with
  | cons r rr =>
    cases rr
    obtain ⟨t, rfl⟩ := r
    refine call_enumerate_str fun h' he hit hsz hk => wpAny_pyIter_enum he ?_
    have I2 : Inv X pins σ H1 { s1 with heap := h' } := I1.kept (t' := s1.toks) hk
    refine ⟨s1.heap.objs.size + 1, [s1.heap.objs.size + 1, s1.heap.objs.size], _, _, H1, rfl, I2, turn_enumS x t (s1.heap.objs.size + 1) s1.heap.objs.size, ⟨Nat.zero_le _, ⟨.none, he⟩, hit, Nat.succ_ne_self _⟩, fun b hb => ?_, q⟩
    have e' : b = s1.heap.objs.size + 1 ∨ b = s1.heap.objs.size := by simpa using hb
    have hle : s1.heap.objs.size ≤ b := by
      rcases e' with z | z
      · rw [z]; exact Nat.le_add_right _ _
      · rw [z]; exact Nat.le_refl _
    exact I1.fpOk hle (I1.hok.fresh hle)
end L2
namespace IX
open PySem PySem.Spec PyProof.Rows L2
section
variable [KC] {E : ExtK} {X : Cx} [KX X] {F H : Hp}
/-! ### enumerate, zip -/
def enumD : Int → List PyData → List PyData
  | _, [] => []
  | i, d :: ds => .tuple [.int i, d] :: enumD (i + 1) ds
theorem enumD_get : ∀ {ds : List PyData} {k : Int} {i : Nat}, (enumD k ds)[i]? = (ds[i]?).map fun d => .tuple [.int (k + (i : Nat)), d]
  | [], k, i => by simp [enumD]
  | d :: ds, k, 0 => by simp [enumD]
  | d :: ds, k, i + 1 => by
    simp only [enumD, List.getElem?_cons_succ]
    rw [enumD_get]
    congr 1
    funext z
    rw [show k + 1 + (i : Nat) = k + ((i + 1 : Nat) : Int) by omega]
theorem enumD_len : ∀ {ds : List PyData} {k : Int}, (enumD k ds).length = ds.length
  | [], _ => rfl
  | d :: ds, k => by simp [enumD, enumD_len (ds := ds)]
theorem walk_enumL {p : Addr} {vs : List V} {ds : List PyData} (hp : F p = some (.lst vs)) (r : RpA F vs ds) : Walk (Ite X.K p) F (enumD 0 ds) := fun i F1 H1 f fh => by
  have h1 : H1 p = some (.lst vs) := fh _ _ (f _ _ hp)
  refine ⟨fun d hd => ?_, fun hl => ⟨vs, SqL.of h1, by rw [r.length]; rw [enumD_len] at hl; exact hl⟩⟩
  rw [enumD_get] at hd
  obtain ⟨d0, hd0, rfl⟩ := Option.map_eq_some_iff.mp hd
  obtain ⟨v, hv, rv⟩ := r.get hd0
  refine ⟨⟨vs, v, SqL.of h1, hv⟩, fun x H2 ⟨T, x', ex, hT, eH, y⟩ => ?_⟩
  have e2 := y vs (SqL.of h1)
  rw [hv] at e2
  cases e2
  subst ex eH
  refine ⟨upd F1 T (.tup [.int (i : Nat), v]), Alloc.new fh hT, ?_⟩
  have fT : F1 T = none := fh.non hT
  refine Rp.tup (.inl (upd_same ..)) ?_
  rw [Int.zero_add]
  exact .cons (.int _) (.cons (Rp.mono (f.tr (Ex.new fT)) _ _ rv) .nil)
theorem walk_enumS {z : Str} : Walk (ItEs z) F (enumD 0 (charsD z)) := fun i F1 H1 f fh => by
  refine ⟨fun d hd => ?_, fun hl => by
    rw [enumD_len] at hl
    have : z.cps.size ≤ i := by simpa [charsD] using hl
    exact this⟩
  rw [enumD_get] at hd
  obtain ⟨d0, hd0, rfl⟩ := Option.map_eq_some_iff.mp hd
  unfold charsD at hd0
  rw [List.getElem?_map] at hd0
  obtain ⟨c, hc, e⟩ := Option.map_eq_some_iff.mp hd0
  subst e
  have hi : i < z.cps.size := by simpa using (List.getElem?_eq_some_iff.mp hc).1
  refine ⟨hi, fun x H2 ⟨T, c', ex, hT, eH, hc'⟩ => ?_⟩
  have : z.cps[i]? = some c := by simpa using hc
  rw [this] at hc'
  cases hc'
  subst ex eH
  refine ⟨upd F1 T (.tup [.int (i : Nat), .str ⟨#[c]⟩]), Alloc.new fh hT, ?_⟩
  refine Rp.tup (.inl (upd_same ..)) ?_
  rw [Int.zero_add]
  exact .cons (.int _) (.cons (.str _) .nil)
def evEnL (a : EvB) : EvA := fun env => match a env with
  | some (.list ds, env') => some (enumD 0 ds, env')
  | _ => none
theorem si_enumL {elts : List Expr} {kk : Nat} {tpos p pos : Pos} {q : Bool} {ev : EvB} (hg : Gl X "enumerate") (hm : X.mg "enumerate" = none) (h : SP E X e q ev) (hs : starEach [e] X.env = [(false, eval e X.env)] := by rfl) :
    SI E X (.Tuple elts kk tpos) (.Call (.Name "enumerate" p) [e] [] pos) q (evEnL ev) := ⟨fun fr => (pi_enum hg hm ((sa_cons h sa_nil hs).pa fr) hs).weak fun σ H R ⟨F, ow, env, ds, env', Rl, ee, k⟩ => by
  unfold evEnL at ee
  split at ee
  · rename_i ds0 e1 h1
    cases ee
    refine ⟨F, ow, env, [.list ds0], _, Rl, by show (ev env).bind _ = _; rw [h1]; rfl, fun vs F' H' ow' R' g hq rs => ?_⟩
    cases rs with
    | cons r rr =>
      cases rr
      cases r with
      | lst hp r => exact ⟨_, _, rfl, SqL.of (R'.fh _ _ hp), k _ F' H' ow' R' g (by simpa using hq) (walk_enumL hp r)⟩
  · cases ee⟩
def evEnS (a : EvB) : EvA := fun env => match a env with
  | some (.str z, env') => some (enumD 0 (charsD z), env')
  | _ => none
theorem si_enumS {elts : List Expr} {kk : Nat} {tpos p pos : Pos} {q : Bool} {ev : EvB} (hg : Gl X "enumerate") (hm : X.mg "enumerate" = none) (h : SP E X e q ev) (hs : starEach [e] X.env = [(false, eval e X.env)] := by rfl) :
    SI E X (.Tuple elts kk tpos) (.Call (.Name "enumerate" p) [e] [] pos) q (evEnS ev) := ⟨fun fr => (pi_enumS hg hm ((sa_cons h sa_nil hs).pa fr) hs).weak fun σ H R ⟨F, ow, env, ds, env', Rl, ee, k⟩ => by
  unfold evEnS at ee
  split at ee
  · rename_i z e1 h1
    cases ee
    refine ⟨F, ow, env, [.str z], _, Rl, by show (ev env).bind _ = _; rw [h1]; rfl, fun vs F' H' ow' R' g hq rs => ?_⟩
    cases rs with
    | cons r rr =>
      cases rr
      cases r
      exact ⟨_, rfl, k _ F' H' ow' R' g (by simpa using hq) walk_enumS⟩
  · cases ee⟩
def zipD : List PyData → List PyData → List PyData
  | d :: ds, e :: es => .tuple [d, e] :: zipD ds es
  | _, _ => []
theorem zipD_get : ∀ {ds es : List PyData} {i : Nat} {d : PyData}, (zipD ds es)[i]? = some d → ∃ a b, ds[i]? = some a ∧ es[i]? = some b ∧ d = .tuple [a, b]
  | [], _, _, _, h => by simp [zipD] at h
  | _ :: _, [], _, _, h => by simp [zipD] at h
  | a :: ds, b :: es, 0, d, h => by
    simp [zipD] at h
    exact ⟨a, b, rfl, rfl, h.symm⟩
  | a :: ds, b :: es, i + 1, d, h => by
    simp only [zipD, List.getElem?_cons_succ] at h ⊢
    exact zipD_get h
theorem zipD_len : ∀ {ds es : List PyData}, (zipD ds es).length = min ds.length es.length
  | [], _ => by simp [zipD]
  | _ :: _, [] => by simp [zipD]
  | a :: ds, b :: es => by
    simp only [zipD, List.length_cons]
    rw [zipD_len]; omega
theorem walk_zipL {p p2 : Addr} {vs vs2 : List V} {ds es : List PyData} (hp : F p = some (.lst vs)) (r : RpA F vs ds) (hp2 : F p2 = some (.lst vs2)) (r2 : RpA F vs2 es) : Walk (Itz X.K p p2) F (zipD ds es) := fun i F1 H1 f fh => by
  have h1 : H1 p = some (.lst vs) := fh _ _ (f _ _ hp)
  have h2 : H1 p2 = some (.lst vs2) := fh _ _ (f _ _ hp2)
  refine ⟨fun d hd => ?_, fun hl => ⟨vs, vs2, SqL.of h1, SqL.of h2, by rw [zipD_len] at hl; rw [r.length, r2.length]; omega⟩⟩
  obtain ⟨d0, e0, hd0, he0, rfl⟩ := zipD_get hd
  obtain ⟨v, hv, rv⟩ := r.get hd0
  obtain ⟨v2, hv2, rv2⟩ := r2.get he0
  refine ⟨⟨vs, vs2, v, v2, SqL.of h1, SqL.of h2, hv, hv2⟩, fun x H2 ⟨T, x', y', ex, hT, eH, y, y2⟩ => ?_⟩
  have e2 := y vs (SqL.of h1)
  rw [hv] at e2
  cases e2
  have e3 := y2 vs2 (SqL.of h2)
  rw [hv2] at e3
  cases e3
  subst ex eH
  refine ⟨upd F1 T (.tup [v, v2]), Alloc.new fh hT, ?_⟩
  have fT : F1 T = none := fh.non hT
  exact Rp.tup (.inl (upd_same ..)) (.cons (Rp.mono (f.tr (Ex.new fT)) _ _ rv) (.cons (Rp.mono (f.tr (Ex.new fT)) _ _ rv2) .nil))
def evZip (a : EvA) : EvA := fun env => match a env with
  | some ([.list ds, .list es], env') => some (zipD ds es, env')
  | _ => none
theorem si_zip {elts : List Expr} {kk : Nat} {tpos p pos : Pos} {q : Bool} {ev : EvA} (hg : Gl X "zip") (hm : X.mg "zip" = none) (h : SA E X [e, e2] q ev)
    (hs : starEach [e, e2] X.env = (false, eval e X.env) :: starEach [e2] X.env := by rfl) (hpl : (backTo pos (starEach [e2] X.env)).any (·.1) = false := by rfl) :
    SI E X (.Tuple elts kk tpos) (.Call (.Name "zip" p) [e, e2] [] pos) q (evZip ev) := ⟨fun fr => (pi_zip hg hm (h.pa fr) hs hpl).weak fun σ H R ⟨F, ow, env, ds, env', Rl, ee, k⟩ => by
  unfold evZip at ee
  split at ee
  · rename_i ds0 es0 e1 h1
    cases ee
    refine ⟨F, ow, env, _, _, Rl, h1, fun vs F' H' ow' R' g hq rs => ?_⟩
    cases rs with
    | cons r rr =>
      cases rr with
      | cons r' rr =>
        cases rr
        cases r with
        | lst hp r =>
          cases r' with
          | lst hp2 r2 => exact ⟨_, _, _, _, rfl, SqL.of (R'.fh _ _ hp), SqL.of (R'.fh _ _ hp2), k _ F' H' ow' R' g hq (walk_zipL hp r hp2 r2)⟩
  · cases ee⟩
end
section
variable {env : SEnv} {k : Int} {d e : PyData} {ds es : List PyData}
@[simp] theorem e_EnL {a : EvB} : evEnL a env = (match a env with
  | some (.list ds, env') => some (enumD 0 ds, env')
  | _ => none) := rfl
@[simp] theorem e_EnS {a : EvB} : evEnS a env = (match a env with
  | some (.str z, env') => some (enumD 0 (charsD z), env')
  | _ => none) := rfl
@[simp] theorem e_Zip {a : EvA} : evZip a env = (match a env with
  | some ([.list ds, .list es], env') => some (zipD ds es, env')
  | _ => none) := rfl
@[simp] theorem e_enum0 : enumD k [] = [] := rfl
@[simp] theorem e_enum1 : enumD k (d :: ds) = .tuple [.int k, d] :: enumD (k + 1) ds := rfl
@[simp] theorem e_zip1 : zipD (d :: ds) (e :: es) = .tuple [d, e] :: zipD ds es := rfl
end
end IX

/-! text IX20 -/
set_option maxHeartbeats 1000000
namespace IX
open PySem PySem.Spec PyProof.Rows L2
section
variable [KC] {E : ExtK} {X : Cx} [KX X] {F H : Hp}
/-! ### divmod, chained comparisons -/
def cDivmod : List PyData → Option Slot
  | [.int i, .int j] => if divOk i j = true then some (.pur (.tuple [.int (i / j), .int (i % j)])) else none
  | _ => none
theorem cv_divmod : CallV X (.builtin "divmod") cDivmod := .of call_divmodW fun xs H Q F ds r ex hd hr k => by
  unfold cDivmod at hr
  split at hr
  · split at hr
    · rename_i i j hc
      cases hr
      obtain ⟨v, w, rfl, h1, h2⟩ := hd.two
      have e1 := h1.int
      have e2 := h2.int
      subst e1 e2
      obtain ⟨c1, c2⟩ := divOk.c hc
      refine ⟨_, _, rfl, ⟨c1, PyProof.noPylong_of_log2 c2⟩, fun p hp => k.newT ex (.cons (.int _) (.cons (.int _) .nil)) hp⟩
    · cases hr
  · cases hr
def evChain (f g : PyData → PyData → Option Slot) (a b c : EvB) : EvE := fun env => (a env).bind fun p => (b p.2).bind fun q => match f p.1 q.1 with
  | some (.pur (.bool true)) => (c q.2).bind fun r => (g q.1 r.1).map fun z => (z, r.2)
  | some (.pur (.bool false)) => some (.pur (.bool false), q.2)
  | _ => none
theorem se_chain {op op' : CmpOp} {f g : PyData → PyData → Option Slot} {qa qb qc st : Bool} {eva evb evc : EvB} (ho : BinV X (compareOp op) f) (ho' : BinV X (compareOp op') g) (ha : SP E X a qa eva) (hb : SP E X b qb evb) (hc : SB E X c qc st evc)
    (hm : lastMarks [op, op'] [b, c] = false := by with_unfolding_all rfl) : SE E X (.Compare a [op, op'] [b, c] pos) (qa && qb && qc) (evChain f g eva evb evc) := ⟨fun fr => (pe_chain ho ho' (ha.pe fr) (hb.pe fr) (hc.pe fr) hm).weak fun σ H Q ⟨F, ow, env, r, env', R, ee, k⟩ => by
  obtain ⟨⟨d, e1⟩, h1, h⟩ := bind2 ee
  obtain ⟨⟨e, e2⟩, h2, h⟩ := bind2 h
  refine ⟨F, ow, env, d, e1, R, h1, fun x F1 H1 ow1 R1 g1 q1 r1 => ?_⟩
  refine ⟨F1, ow1, e1, e, e2, R1, h2, fun y F2 H2 ow2 R2 g2 q2 r2 => ?_⟩
  dsimp only at h
  split at h
  · rename_i h0
    obtain ⟨⟨d3, e3⟩, h3, h⟩ := bind2 h
    obtain ⟨z, h4, h⟩ := Option.map_eq_some_iff.mp h
    cases h
    refine ⟨F2, d, e, _, R2.fh, .inl (Rp.mono g2.f _ _ r1), .inl r2, h0, out_of (q := true) R2 Grow.refl (fun _ => Ex.refl _) fun v F3 H3 ow3 R3 g3 q3 r3 => ?_⟩
    obtain ⟨_, _, S, _, hs⟩ := r3
    cases hs
    refine ⟨true, rfl, ?_⟩
    rw [if_pos rfl]
    refine ⟨F3, ow3, e2, d3, e3, R3, h3, fun w F4 H4 ow4 R4 g4 q4 r4 => ?_⟩
    refine ⟨F4, e, d3, _, R4.fh, .inl (Rp.mono (g3.f.tr g4.f) _ _ r2), r4.l, h4, out_of R4 (((g1.tr g2).tr g3).tr g4) (fun hz => ?_) k⟩
    obtain ⟨z1, z2⟩ := Bool.and_eq_true_iff.mp hz
    obtain ⟨z3, z4⟩ := Bool.and_eq_true_iff.mp z1
    exact (((q1 z3).tr (q2 z4)).tr (q3 rfl)).tr (q4 z2)
  · rename_i h0
    cases h
    refine ⟨F2, d, e, _, R2.fh, .inl (Rp.mono g2.f _ _ r1), .inl r2, h0, out_of (q := true) R2 Grow.refl (fun _ => Ex.refl _) fun v F3 H3 ow3 R3 g3 q3 r3 => ?_⟩
    obtain ⟨_, _, S, _, hs⟩ := r3
    cases hs
    refine ⟨false, rfl, ?_⟩
    rw [if_neg (by decide)]
    refine k _ F3 H3 ow3 R3 ((g1.tr g2).tr g3) (fun hz => ?_) (Res.pur (.bl false))
    obtain ⟨z1, z2⟩ := Bool.and_eq_true_iff.mp hz
    obtain ⟨z3, z4⟩ := Bool.and_eq_true_iff.mp z1
    exact ((q1 z3).tr (q2 z4)).tr (q3 rfl)
  · cases h⟩
theorem st_chain {op op' : CmpOp} {f g : PyData → PyData → Option Slot} {qa qb qc st : Bool} {eva evb evc : EvB} (ho : BinV X (compareOp op) f) (ho' : BinV X (compareOp op') g) (ha : SP E X a qa eva) (hb : SP E X b qb evb) (hc : SB E X c qc st evc)
    (hm : lastMarks [op, op'] [b, c] = false := by with_unfolding_all rfl) : ST E X (.Compare a [op, op'] [b, c] pos) (qa && qb && qc) (evTr (evChain f g eva evb evc)) := ⟨fun fr => (pt_chain ho ho' (ha.pe fr) (hb.pe fr) (hc.pe fr) hm).weak fun σ H Q ⟨F, ow, env, r, env', R, ee, k⟩ => by
  obtain ⟨⟨d, e1⟩, h1, h⟩ := bind2 (evTr_some ee)
  obtain ⟨⟨e, e2⟩, h2, h⟩ := bind2 h
  refine ⟨F, ow, env, d, e1, R, h1, fun x F1 H1 ow1 R1 g1 q1 r1 => ?_⟩
  refine ⟨F1, ow1, e1, e, e2, R1, h2, fun y F2 H2 ow2 R2 g2 q2 r2 => ?_⟩
  dsimp only at h
  split at h
  · rename_i h0
    obtain ⟨⟨d3, e3⟩, h3, h⟩ := bind2 h
    obtain ⟨z, h4, h⟩ := Option.map_eq_some_iff.mp h
    cases h
    refine ⟨F2, d, e, _, R2.fh, .inl (Rp.mono g2.f _ _ r1), .inl r2, h0, out_of (q := true) R2 Grow.refl (fun _ => Ex.refl _) fun v F3 H3 ow3 R3 g3 q3 r3 => ?_⟩
    obtain ⟨_, _, S, _, hs⟩ := r3
    cases hs
    refine ⟨true, rfl, ?_⟩
    rw [if_pos rfl]
    refine ⟨F3, ow3, e2, d3, e3, R3, h3, fun w F4 H4 ow4 R4 g4 q4 r4 => ?_⟩
    refine ⟨F4, e, d3, _, R4.fh, .inl (Rp.mono (g3.f.tr g4.f) _ _ r2), r4.l, h4, out_of R4 (((g1.tr g2).tr g3).tr g4) (q := qa && qb && qc) (fun hz => ?_) fun v F5 H5 ow5 R5 g5 q5 r5 => by
      obtain ⟨_, _, S, _, hs⟩ := r5
      cases hs
      exact ⟨_, rfl, k F5 H5 ow5 R5 g5 q5⟩⟩
    obtain ⟨z1, z2⟩ := Bool.and_eq_true_iff.mp hz
    obtain ⟨z3, z4⟩ := Bool.and_eq_true_iff.mp z1
    exact (((q1 z3).tr (q2 z4)).tr (q3 rfl)).tr (q4 z2)
  · rename_i h0
    cases h
    refine ⟨F2, d, e, _, R2.fh, .inl (Rp.mono g2.f _ _ r1), .inl r2, h0, out_of (q := true) R2 Grow.refl (fun _ => Ex.refl _) fun v F3 H3 ow3 R3 g3 q3 r3 => ?_⟩
    obtain ⟨_, _, S, _, hs⟩ := r3
    cases hs
    refine ⟨false, rfl, ?_⟩
    rw [if_neg (by decide)]
    refine ⟨false, rfl, k F3 H3 ow3 R3 ((g1.tr g2).tr g3) (fun hz => ?_)⟩
    obtain ⟨z1, z2⟩ := Bool.and_eq_true_iff.mp hz
    obtain ⟨z3, z4⟩ := Bool.and_eq_true_iff.mp z1
    exact ((q1 z3).tr (q2 z4)).tr (q3 rfl)
  · cases h⟩
end
section
variable {env : SEnv}
@[simp] theorem e_divmod {i j : Int} : cDivmod [.int i, .int j] = (if divOk i j = true then some (.pur (.tuple [.int (i / j), .int (i % j)])) else none) := rfl
@[simp] theorem e_Chain {f g : PyData → PyData → Option Slot} {a b c : EvB} : evChain f g a b c env = (a env).bind fun p => (b p.2).bind fun q => match f p.1 q.1 with
  | some (.pur (.bool true)) => (c q.2).bind fun r => (g q.1 r.1).map fun z => (z, r.2)
  | some (.pur (.bool false)) => some (.pur (.bool false), q.2)
  | _ => none := rfl
theorem bt_divmod : bootBuiltins "divmod" = some (.builtin "divmod") := by decide +kernel
end
end IX

/-! text IX21 -/
set_option maxHeartbeats 1000000
namespace IX
open PySem PySem.Spec PyProof.Rows L2
section
variable [KC] {E : ExtK} {X : Cx} [KX X] {F H : Hp}
/-! ### isinstance(x, T), T a built-in type -/
def tyN : PyData → Option String
  | .none => some "NoneType" | .bool _ => some "bool" | .int _ => some "int" | .str _ => some "str" | .list _ => some "list" | .tuple _ => some "tuple" | _ => none
theorem ty_ofL {x : V} {d : PyData} {n : String} (ex : Ex F H) (h : RpL F H x d) (e : tyN d = some n) : TyX X.K H x (.type n) := by
  rcases h with h | ⟨p, vs, ds, rfl, rfl, hp, _⟩
  · cases h with
    | non => cases e; exact .base .non
    | bl b => cases e; exact .base (.bl _)
    | int i => cases e; exact .base (.int _)
    | str z => cases e; exact .base (.str _)
    | lst hp r => cases e; exact .base (.lst (ex _ _ hp))
    | tup hp r =>
      cases e
      rcases hp with hp | ⟨o, its, m, h1, h2, _⟩
      · exact .base (.tup (ex _ _ hp))
      · rw [← KX.eq (X := X)] at h1
        exact .kTuple h1 h2
  · cases e; exact .base (.lst hp)
def fIsi (T : String) (d : PyData) : Option Slot := (tyN d).bind fun a => (kitB a T).map fun b => .pur (.bool b)
def evIsi (T : String) (a : EvB) : EvE := fun env => (a env).bind fun p => (fIsi T p.1).map fun r => (r, p.2)
theorem se_isi {x : Str} {T : String} {p p2 pos : Pos} {q st : Bool} {ev : EvB} (hg : Gl X "isinstance") (hm : X.mg "isinstance" = none) (hg2 : Gl X x) (hm2 : X.mg x = none) (hv2 : bootBuiltins x = some (.type T)) (ha : SB E X e q st ev)
    (he : starEach [e, .Name x p2] X.env = (false, eval e X.env) :: starEach [.Name x p2] X.env := by rfl) (he2 : starEach [.Name x p2] X.env = (false, eval (.Name x p2) X.env) :: starEach [] X.env := by rfl) (hpl : (backTo pos (starEach [.Name x p2] X.env)).any (·.1) = false := by rfl)
    (hn : x ≠ "__name__" := by decide) (hd : (x == ("__debug__" : Str)) = false := by decide) :
    SE E X (.Call (.Name "isinstance" p) [e, .Name x p2] [] pos) q (evIsi T ev) := ⟨fun fr => (pe_callB call_isi hg hm PyProof.Rows.boot_isinstance (pa_cons (ha.pe fr) (pa_cons (pe_bltn hg2 hm2 hv2 (v := .ty T) rfl hn hd) pa_nil he2) he) (by decide) (by decide) he hpl).weak fun σ H Q ⟨F, ow, env, r, env', R, ee, k⟩ => by
  obtain ⟨⟨d, e1⟩, h1, h⟩ := bind2 ee
  obtain ⟨r', h2, h⟩ := Option.map_eq_some_iff.mp h
  cases h
  obtain ⟨n, h3, h4⟩ := bind2 h2
  obtain ⟨b, h5, h6⟩ := Option.map_eq_some_iff.mp h4
  cases h6
  refine ⟨F, ow, env, d, e1, R, h1, fun v F' H' ow' R' g hq rs => ?_⟩
  exact ⟨v, .ty T, .type n, .type T, b, rfl, .ty T, ty_ofL R'.fh rs.l h3, kit_ty h5, OutV.data (out_of R' g hq k) R'.fh (.bl b)⟩⟩
/-- no fuel: nothing is said -/
theorem sss_none {ss : List Stmt} : SSs E X ss (fun _ => none) := ⟨fun fr => ⟨fun pins s σ H D I ⟨_, _, _, _, _, ee, _⟩ => nomatch ee⟩⟩
end
section
variable {env : SEnv}
@[simp] theorem e_Isi {T : String} {a : EvB} : evIsi T a env = (a env).bind fun p => (fIsi T p.1).map fun r => (r, p.2) := rfl
theorem kb_NoneType_bool : kitB "NoneType" "bool" = some false := by decide +kernel
@[simp] theorem isi_NoneType_bool  : fIsi "bool" .none = some (.pur (.bool false)) := by
  simp only [fIsi, tyN, Option.bind_some]
  rw [kb_NoneType_bool]; rfl
theorem kb_NoneType_int : kitB "NoneType" "int" = some false := by decide +kernel
@[simp] theorem isi_NoneType_int  : fIsi "int" .none = some (.pur (.bool false)) := by
  simp only [fIsi, tyN, Option.bind_some]
  rw [kb_NoneType_int]; rfl
theorem kb_NoneType_str : kitB "NoneType" "str" = some false := by decide +kernel
@[simp] theorem isi_NoneType_str  : fIsi "str" .none = some (.pur (.bool false)) := by
  simp only [fIsi, tyN, Option.bind_some]
  rw [kb_NoneType_str]; rfl
theorem kb_NoneType_list : kitB "NoneType" "list" = some false := by decide +kernel
@[simp] theorem isi_NoneType_list  : fIsi "list" .none = some (.pur (.bool false)) := by
  simp only [fIsi, tyN, Option.bind_some]
  rw [kb_NoneType_list]; rfl
theorem kb_NoneType_tuple : kitB "NoneType" "tuple" = some false := by decide +kernel
@[simp] theorem isi_NoneType_tuple  : fIsi "tuple" .none = some (.pur (.bool false)) := by
  simp only [fIsi, tyN, Option.bind_some]
  rw [kb_NoneType_tuple]; rfl
theorem kb_bool_bool : kitB "bool" "bool" = some true := by decide +kernel
@[simp] theorem isi_bool_bool {b : Bool} : fIsi "bool" (.bool b) = some (.pur (.bool true)) := by
  simp only [fIsi, tyN, Option.bind_some]
  rw [kb_bool_bool]; rfl
theorem kb_bool_int : kitB "bool" "int" = some true := by decide +kernel
@[simp] theorem isi_bool_int {b : Bool} : fIsi "int" (.bool b) = some (.pur (.bool true)) := by
  simp only [fIsi, tyN, Option.bind_some]
  rw [kb_bool_int]; rfl
theorem kb_bool_str : kitB "bool" "str" = some false := by decide +kernel
@[simp] theorem isi_bool_str {b : Bool} : fIsi "str" (.bool b) = some (.pur (.bool false)) := by
  simp only [fIsi, tyN, Option.bind_some]
  rw [kb_bool_str]; rfl
theorem kb_bool_list : kitB "bool" "list" = some false := by decide +kernel
@[simp] theorem isi_bool_list {b : Bool} : fIsi "list" (.bool b) = some (.pur (.bool false)) := by
  simp only [fIsi, tyN, Option.bind_some]
  rw [kb_bool_list]; rfl
theorem kb_bool_tuple : kitB "bool" "tuple" = some false := by decide +kernel
@[simp] theorem isi_bool_tuple {b : Bool} : fIsi "tuple" (.bool b) = some (.pur (.bool false)) := by
  simp only [fIsi, tyN, Option.bind_some]
  rw [kb_bool_tuple]; rfl
theorem kb_int_bool : kitB "int" "bool" = some false := by decide +kernel
@[simp] theorem isi_int_bool {i : Int} : fIsi "bool" (.int i) = some (.pur (.bool false)) := by
  simp only [fIsi, tyN, Option.bind_some]
  rw [kb_int_bool]; rfl
theorem kb_int_int : kitB "int" "int" = some true := by decide +kernel
@[simp] theorem isi_int_int {i : Int} : fIsi "int" (.int i) = some (.pur (.bool true)) := by
  simp only [fIsi, tyN, Option.bind_some]
  rw [kb_int_int]; rfl
theorem kb_int_str : kitB "int" "str" = some false := by decide +kernel
@[simp] theorem isi_int_str {i : Int} : fIsi "str" (.int i) = some (.pur (.bool false)) := by
  simp only [fIsi, tyN, Option.bind_some]
  rw [kb_int_str]; rfl
theorem kb_int_list : kitB "int" "list" = some false := by decide +kernel
@[simp] theorem isi_int_list {i : Int} : fIsi "list" (.int i) = some (.pur (.bool false)) := by
  simp only [fIsi, tyN, Option.bind_some]
  rw [kb_int_list]; rfl
theorem kb_int_tuple : kitB "int" "tuple" = some false := by decide +kernel
@[simp] theorem isi_int_tuple {i : Int} : fIsi "tuple" (.int i) = some (.pur (.bool false)) := by
  simp only [fIsi, tyN, Option.bind_some]
  rw [kb_int_tuple]; rfl
theorem kb_str_bool : kitB "str" "bool" = some false := by decide +kernel
@[simp] theorem isi_str_bool {z : Str} : fIsi "bool" (.str z) = some (.pur (.bool false)) := by
  simp only [fIsi, tyN, Option.bind_some]
  rw [kb_str_bool]; rfl
theorem kb_str_int : kitB "str" "int" = some false := by decide +kernel
@[simp] theorem isi_str_int {z : Str} : fIsi "int" (.str z) = some (.pur (.bool false)) := by
  simp only [fIsi, tyN, Option.bind_some]
  rw [kb_str_int]; rfl
theorem kb_str_str : kitB "str" "str" = some true := by decide +kernel
@[simp] theorem isi_str_str {z : Str} : fIsi "str" (.str z) = some (.pur (.bool true)) := by
  simp only [fIsi, tyN, Option.bind_some]
  rw [kb_str_str]; rfl
theorem kb_str_list : kitB "str" "list" = some false := by decide +kernel
@[simp] theorem isi_str_list {z : Str} : fIsi "list" (.str z) = some (.pur (.bool false)) := by
  simp only [fIsi, tyN, Option.bind_some]
  rw [kb_str_list]; rfl
theorem kb_str_tuple : kitB "str" "tuple" = some false := by decide +kernel
@[simp] theorem isi_str_tuple {z : Str} : fIsi "tuple" (.str z) = some (.pur (.bool false)) := by
  simp only [fIsi, tyN, Option.bind_some]
  rw [kb_str_tuple]; rfl
theorem kb_list_bool : kitB "list" "bool" = some false := by decide +kernel
@[simp] theorem isi_list_bool {ds : List PyData} : fIsi "bool" (.list ds) = some (.pur (.bool false)) := by
  simp only [fIsi, tyN, Option.bind_some]
  rw [kb_list_bool]; rfl
theorem kb_list_int : kitB "list" "int" = some false := by decide +kernel
@[simp] theorem isi_list_int {ds : List PyData} : fIsi "int" (.list ds) = some (.pur (.bool false)) := by
  simp only [fIsi, tyN, Option.bind_some]
  rw [kb_list_int]; rfl
theorem kb_list_str : kitB "list" "str" = some false := by decide +kernel
@[simp] theorem isi_list_str {ds : List PyData} : fIsi "str" (.list ds) = some (.pur (.bool false)) := by
  simp only [fIsi, tyN, Option.bind_some]
  rw [kb_list_str]; rfl
theorem kb_list_list : kitB "list" "list" = some true := by decide +kernel
@[simp] theorem isi_list_list {ds : List PyData} : fIsi "list" (.list ds) = some (.pur (.bool true)) := by
  simp only [fIsi, tyN, Option.bind_some]
  rw [kb_list_list]; rfl
theorem kb_list_tuple : kitB "list" "tuple" = some false := by decide +kernel
@[simp] theorem isi_list_tuple {ds : List PyData} : fIsi "tuple" (.list ds) = some (.pur (.bool false)) := by
  simp only [fIsi, tyN, Option.bind_some]
  rw [kb_list_tuple]; rfl
theorem kb_tuple_bool : kitB "tuple" "bool" = some false := by decide +kernel
@[simp] theorem isi_tuple_bool {ds : List PyData} : fIsi "bool" (.tuple ds) = some (.pur (.bool false)) := by
  simp only [fIsi, tyN, Option.bind_some]
  rw [kb_tuple_bool]; rfl
theorem kb_tuple_int : kitB "tuple" "int" = some false := by decide +kernel
@[simp] theorem isi_tuple_int {ds : List PyData} : fIsi "int" (.tuple ds) = some (.pur (.bool false)) := by
  simp only [fIsi, tyN, Option.bind_some]
  rw [kb_tuple_int]; rfl
theorem kb_tuple_str : kitB "tuple" "str" = some false := by decide +kernel
@[simp] theorem isi_tuple_str {ds : List PyData} : fIsi "str" (.tuple ds) = some (.pur (.bool false)) := by
  simp only [fIsi, tyN, Option.bind_some]
  rw [kb_tuple_str]; rfl
theorem kb_tuple_list : kitB "tuple" "list" = some false := by decide +kernel
@[simp] theorem isi_tuple_list {ds : List PyData} : fIsi "list" (.tuple ds) = some (.pur (.bool false)) := by
  simp only [fIsi, tyN, Option.bind_some]
  rw [kb_tuple_list]; rfl
theorem kb_tuple_tuple : kitB "tuple" "tuple" = some true := by decide +kernel
@[simp] theorem isi_tuple_tuple {ds : List PyData} : fIsi "tuple" (.tuple ds) = some (.pur (.bool true)) := by
  simp only [fIsi, tyN, Option.bind_some]
  rw [kb_tuple_tuple]; rfl
theorem bt_bool : bootBuiltins "bool" = some (.type "bool") := by decide +kernel
theorem bt_str : bootBuiltins "str" = some (.type "str") := by decide +kernel
end
end IX

/-! text IX22 -/
set_option maxHeartbeats 1000000
namespace IX
open PySem PySem.Spec PyProof.Rows L2
section
variable [KC] {E : ExtK} {X : Cx} [KX X] {F H : Hp}
/-! ### list(range(a, b)) -/
def fRgL : PyData → PyData → Option Slot
  | .int i, .int j => if (-(2 ^ 62) ≤ i ∧ i < 2 ^ 62) ∧ (-(2 ^ 62) ≤ j ∧ j < 2 ^ 62) ∧ (j - i).toNat ≤ 16777216 then some (.own false (rangeD i (j - i).toNat)) else none
  | _, _ => none
theorem rgD_eq (i j : Int) : rangeD i (j - i).toNat = ((List.range (j - i).toNat).map fun z : Nat => i + (z : Int)).map PyData.int := by
  unfold rangeD; rw [List.map_map]; rfl
theorem rgV_eq (i j : Int) : rgV i j = ((List.range (j - i).toNat).map fun z : Nat => i + (z : Int)).map V.int := by
  unfold rgV; rw [List.map_map]; rfl
theorem se_listRg {p1 p2 p3 p4 : Pos} {a b : Expr} {qa qb sa sb : Bool} {eva evb : EvB} (hcm : X.calm = true) (hg : Gl X "list") (hm : X.mg "list" = none) (hg2 : Gl X "range") (hm2 : X.mg "range" = none)
    (ha : SB E X a qa sa eva) (hb : SB E X b qb sb evb) (hc : (qb || sa) = true := by rfl)
    (na : starEach [a, b] X.env = (false, eval a X.env) :: starEach [b] X.env := by rfl)
    (nb : starEach [b] X.env = (false, eval b X.env) :: starEach [] X.env := by rfl) (hp : (backTo p2 (starEach [b] X.env)).any (·.1) = false := by rfl)
    (ne : starEach [(.Call (.Name "range" p1) [a, b] [] p2 : Expr)] X.env = (false, eval (.Call (.Name "range" p1) [a, b] [] p2) X.env) :: starEach [] X.env := by rfl) :
    SE E X (.Call (.Name "list" p3) [.Call (.Name "range" p1) [a, b] [] p2] [] p4) (qa && qb) (evBin fRgL eva evb) := ⟨fun fr => (pe_listRg hcm hg hm (prg_2 hg2 hm2 (ha.pe fr) (hb.pe fr) na nb hp) ne).weak fun σ H Q ⟨F, ow, env, r, env', R, ee, k⟩ => by
  obtain ⟨d, env1, e, h1, h2, h3⟩ := evBin_some ee
  refine two (fun _ _ _ z => z) (fun _ _ _ z => z) hc R h1 h2 fun x y F' H' ow' R' g hq rx ry => ?_
  unfold fRgL at h3
  split at h3
  · rename_i i j
    split at h3
    · rename_i c
      cases h3
      refine ⟨i, j, rx.int, ry.l.int, ⟨c.1.1, c.1.2, c.2.1.1, c.2.1.2, c.2.2⟩, fun q hq' => ?_⟩
      have k' := out_of R' g hq k
      rw [rgD_eq] at k'
      rw [rgV_eq]
      exact k'.newL R'.fh (RpA.ints _) hq'
    · cases h3
  · cases h3⟩
/-! ### a op b op c op d -/
def tChain3 (r r' r'' : R2) (ta tb tc td : TE) : TE := fun σ H Q => ta σ H fun x H1 => tb σ H1 fun y H2 => r x y H2 fun z H3 => ∃ k, z = .bl k ∧
  (if k = true then tc σ H3 fun w' H4 => r' y w' H4 fun z2 H5 => ∃ k2, z2 = .bl k2 ∧ (if k2 = true then td σ H5 fun u' H6 => r'' w' u' H6 Q else Q (.bl false) H5) else Q (.bl false) H3)
theorem pe_chain3 {a b c d : Expr} {pos : Pos} {ta tb tc td : TE} {op op' op'' : CmpOp} {r r' r'' : R2} (ho : OpR X (compareOp op) r) (ho' : OpR X (compareOp op') r') (ho'' : OpR X (compareOp op'') r'') (ha : PE X a ta) (hb : PE X b tb) (hc : PE X c tc) (hd : PE X d td)
    (hm : lastMarks [op, op', op''] [b, c, d] = false := by with_unfolding_all rfl) : PE X (.Compare a [op, op', op''] [b, c, d] pos) (tChain3 r r' r'' ta tb tc td) := by
  refine ⟨fun pins s σ H Q I h => ?_⟩
  refine Compare_chain (thn (ha.run pins s σ H _ I h) fun v s1 ⟨x, H1, I1, r1, q1⟩ => chain_link (thn (hb.run pins s1 σ H1 _ I1 q1) fun u s2 ⟨y, H2, I2, r2, q2⟩ =>
    thn (ho pins s2 σ H2 x y v u _ I2 r1 r2 q2) fun d s3 ⟨z, H3, I3, r3, k, e, q3⟩ => ?_)) hm
  subst e
  cases r3
  refine wpAny_truthy_bool ?_
  cases k with
  | false => exact ite_ff ⟨.bl false, H3, I3, rfl, q3⟩
  | true =>
    refine ite_tt (chain_link (thn (hc.run pins s3 σ H3 _ I3 q3) fun w' s4 ⟨z', H4, I4, r4, q4⟩ => thn (ho' pins s4 σ H4 y z' u w' _ I4 r2 r4 q4) fun d2 s5 ⟨z2, H5, I5, r5, k2, e2, q5⟩ => ?_))
    subst e2
    cases r5
    refine wpAny_truthy_bool ?_
    cases k2 with
    | false => exact ite_ff ⟨.bl false, H5, I5, rfl, q5⟩
    | true => exact ite_tt (chain_last (thn (hd.run pins s5 σ H5 _ I5 q5) fun w3 s6 ⟨z3, H6, I6, r6, q6⟩ => ho'' pins s6 σ H6 z' z3 w' w3 Q I6 r4 r6 q6))
def evChain3 (f g h : PyData → PyData → Option Slot) (a b c d : EvB) : EvE := fun env => (a env).bind fun p => (b p.2).bind fun q => match f p.1 q.1 with
  | some (.pur (.bool true)) => (c q.2).bind fun r => match g q.1 r.1 with
    | some (.pur (.bool true)) => (d r.2).bind fun s => (h r.1 s.1).map fun z => (z, s.2)
    | some (.pur (.bool false)) => some (.pur (.bool false), r.2)
    | _ => none
  | some (.pur (.bool false)) => some (.pur (.bool false), q.2)
  | _ => none
theorem se_chain3 {a b c d : Expr} {pos : Pos} {op op' op'' : CmpOp} {f g f3 : PyData → PyData → Option Slot} {qa qb qc qd st : Bool} {eva evb evc evd : EvB} (ho : BinV X (compareOp op) f) (ho' : BinV X (compareOp op') g) (ho'' : BinV X (compareOp op'') f3) (ha : SP E X a qa eva) (hb : SP E X b qb evb) (hc : SP E X c qc evc) (hd : SB E X d qd st evd)
    (hm : lastMarks [op, op', op''] [b, c, d] = false := by with_unfolding_all rfl) : SE E X (.Compare a [op, op', op''] [b, c, d] pos) (qa && qb && qc && qd) (evChain3 f g f3 eva evb evc evd) := ⟨fun fr => (pe_chain3 ho ho' ho'' (ha.pe fr) (hb.pe fr) (hc.pe fr) (hd.pe fr) hm).weak fun σ H Q ⟨F, ow, env, r, env', R, ee, k⟩ => by
  obtain ⟨⟨d, e1⟩, h1, h⟩ := bind2 ee
  obtain ⟨⟨e, e2⟩, h2, h⟩ := bind2 h
  refine ⟨F, ow, env, d, e1, R, h1, fun x F1 H1 ow1 R1 g1 q1 r1 => ?_⟩
  refine ⟨F1, ow1, e1, e, e2, R1, h2, fun y F2 H2 ow2 R2 g2 q2 r2 => ?_⟩
  dsimp only at h
  split at h
  · rename_i h0
    obtain ⟨⟨d3, e3⟩, h3, h⟩ := bind2 h
    refine ⟨F2, d, e, _, R2.fh, .inl (Rp.mono g2.f _ _ r1), .inl r2, h0, out_of (q := true) R2 Grow.refl (fun _ => Ex.refl _) fun v F3 H3 ow3 R3 g3 q3 r3 => ?_⟩
    obtain ⟨_, _, S, _, hs⟩ := r3
    cases hs
    refine ⟨true, rfl, ?_⟩
    rw [if_pos rfl]
    refine ⟨F3, ow3, e2, d3, e3, R3, h3, fun w F4 H4 ow4 R4 g4 q4 r4 => ?_⟩
    dsimp only at h
    split at h
    · rename_i h5
      obtain ⟨⟨d6, e6⟩, h6, h⟩ := bind2 h
      obtain ⟨z, h7, h⟩ := Option.map_eq_some_iff.mp h
      cases h
      refine ⟨F4, e, d3, _, R4.fh, .inl (Rp.mono (g3.f.tr g4.f) _ _ r2), .inl r4, h5, out_of (q := true) R4 Grow.refl (fun _ => Ex.refl _) fun v5 F5 H5 ow5 R5 g5 q5 r5 => ?_⟩
      obtain ⟨_, _, S5, _, hs5⟩ := r5
      cases hs5
      refine ⟨true, rfl, ?_⟩
      rw [if_pos rfl]
      refine ⟨F5, ow5, e3, d6, e6, R5, h6, fun w6 F6 H6 ow6 R6 g6 q6 r6 => ?_⟩
      refine ⟨F6, d3, d6, _, R6.fh, .inl (Rp.mono (g5.f.tr g6.f) _ _ r4), r6.l, h7, out_of R6 (((((g1.tr g2).tr g3).tr g4).tr g5).tr g6) (fun hz => ?_) k⟩
      obtain ⟨z0, z9⟩ := Bool.and_eq_true_iff.mp hz
      obtain ⟨z1, z2⟩ := Bool.and_eq_true_iff.mp z0
      obtain ⟨z3, z4⟩ := Bool.and_eq_true_iff.mp z1
      exact (((((q1 z3).tr (q2 z4)).tr (q3 rfl)).tr (q4 z2)).tr (q5 rfl)).tr (q6 z9)
    · rename_i h5
      cases h
      refine ⟨F4, e, d3, _, R4.fh, .inl (Rp.mono (g3.f.tr g4.f) _ _ r2), .inl r4, h5, out_of (q := true) R4 Grow.refl (fun _ => Ex.refl _) fun v5 F5 H5 ow5 R5 g5 q5 r5 => ?_⟩
      obtain ⟨_, _, S5, _, hs5⟩ := r5
      cases hs5
      refine ⟨false, rfl, ?_⟩
      rw [if_neg (by decide)]
      refine k _ F5 H5 ow5 R5 ((((g1.tr g2).tr g3).tr g4).tr g5) (fun hz => ?_) (Res.pur (.bl false))
      obtain ⟨z0, z9⟩ := Bool.and_eq_true_iff.mp hz
      obtain ⟨z1, z2⟩ := Bool.and_eq_true_iff.mp z0
      obtain ⟨z3, z4⟩ := Bool.and_eq_true_iff.mp z1
      exact ((((q1 z3).tr (q2 z4)).tr (q3 rfl)).tr (q4 z2)).tr (q5 rfl)
    · cases h
  · rename_i h0
    cases h
    refine ⟨F2, d, e, _, R2.fh, .inl (Rp.mono g2.f _ _ r1), .inl r2, h0, out_of (q := true) R2 Grow.refl (fun _ => Ex.refl _) fun v F3 H3 ow3 R3 g3 q3 r3 => ?_⟩
    obtain ⟨_, _, S, _, hs⟩ := r3
    cases hs
    refine ⟨false, rfl, ?_⟩
    rw [if_neg (by decide)]
    refine k _ F3 H3 ow3 R3 ((g1.tr g2).tr g3) (fun hz => ?_) (Res.pur (.bl false))
    obtain ⟨z0, z9⟩ := Bool.and_eq_true_iff.mp hz
    obtain ⟨z1, z2⟩ := Bool.and_eq_true_iff.mp z0
    obtain ⟨z3, z4⟩ := Bool.and_eq_true_iff.mp z1
    exact ((q1 z3).tr (q2 z4)).tr (q3 rfl)
  · cases h⟩
end
section
variable {env : SEnv}
@[simp] theorem e_RgL {i j : Int} : fRgL (.int i) (.int j) = (if (-(2 ^ 62) ≤ i ∧ i < 2 ^ 62) ∧ (-(2 ^ 62) ≤ j ∧ j < 2 ^ 62) ∧ (j - i).toNat ≤ 16777216 then some (.own false (rangeD i (j - i).toNat)) else none) := rfl
@[simp] theorem e_Chain3 {f g h : PyData → PyData → Option Slot} {a b c d : EvB} : evChain3 f g h a b c d env = (a env).bind fun p => (b p.2).bind fun q => match f p.1 q.1 with
  | some (.pur (.bool true)) => (c q.2).bind fun r => match g q.1 r.1 with
    | some (.pur (.bool true)) => (d r.2).bind fun s => (h r.1 s.1).map fun z => (z, s.2)
    | some (.pur (.bool false)) => some (.pur (.bool false), r.2)
    | _ => none
  | some (.pur (.bool false)) => some (.pur (.bool false), q.2)
  | _ => none := rfl
end
section
variable {env : SEnv}
@[simp] theorem e_extL {ds es : List PyData} : mExtend ds [.list es] = (if ds.length + es.length ≤ sizeLine then some (.none, ds ++ es) else none) := rfl
theorem layI : ∀ ns : List Int, PyData.canLayAll0 (ns.map .int) = true ∧ PyData.depthAll (ns.map .int) = 0
  | [] => ⟨rfl, rfl⟩
  | n :: ns => by
    obtain ⟨h1, h2⟩ := layI ns
    rw [List.map_cons, PyData.canLayAll0, PyData.depthAll, h1, h2]
    exact ⟨rfl, rfl⟩
theorem shI (ns : List Int) : SeqAt.shaped (.list (ns.map .int)) = true := by
  obtain ⟨h1, h2⟩ := layI ns
  have h3 : (PyData.list (ns.map .int)).depth ≤ 64 := by simp [PyData.depth, h2]
  simp [SeqAt.shaped, h3]
  simp [PyData.canLay0, h1]
theorem eqvI : ∀ ns ms : List Int, PyData.eqvAll (ns.map .int) (ms.map .int) = decide (ns = ms)
  | [], [] => by simp [PyData.eqvAll]
  | [], _ :: _ => by simp [PyData.eqvAll]
  | _ :: _, [] => by simp [PyData.eqvAll]
  | n :: ns, m :: ms => by
    rw [List.map_cons, List.map_cons, PyData.eqvAll, eqvI ns ms]
    simp only [PyData.eqv]
    rw [Bool.eq_iff_iff]; simp
theorem neI (ns ms : List Int) : opNe (.list (ns.map .int)) (.list (ms.map .int)) = some (.pur (.bool (decide (ns ≠ ms)))) := by
  rw [e_ne_sh (by rw [shI, shI]; rfl)]
  simp only [PyData.eqv, eqvI]
  simp
theorem eqI (ns ms : List Int) : opEq (.list (ns.map .int)) (.list (ms.map .int)) = some (.pur (.bool (decide (ns = ms)))) := by
  rw [e_eq_sh (by rw [shI, shI]; rfl)]
  simp only [PyData.eqv, eqvI]
theorem cut_m1 {α : Type} (l : List α) (a : α) : cutD (l ++ [a]) none (some (-1)) = l := by
  unfold cutD
  simp [HT.sIx]
  rw [show (-1 + ((l.length : Int) + 1)).toNat = l.length by omega, List.take_left']
  rfl
theorem compL_encF {α : Type} {vs : List Nat} {g : PyData → SEnv → Option SEnv} {t : EvT} {a : EvB} {env : SEnv} (enc out : α → PyData) (pr : α → Bool) : ∀ (xs : List α) (acc : List PyData), acc.length + xs.length ≤ sizeLine →
    (∀ x ∈ xs, ∃ e e2, g (enc x) env = some e ∧ t e = some (pr x, e2) ∧ (pr x = true → ∃ e3, a e2 = some (out x, e3) ∧ wipeE e3 vs = env) ∧ (pr x = false → wipeE e2 vs = env)) → compL vs g t a (xs.map enc) env acc = some (acc ++ (xs.filter pr).map out, env)
  | [], acc, _, _ => by simp
  | d :: ds, acc, hl, h => by
    obtain ⟨e, e2, h1, h2, h3, h4⟩ := h d (by simp)
    rw [List.length_cons] at hl
    rw [List.map_cons, e_comp1, h1]
    cases c : pr d with
    | true =>
      obtain ⟨e3, h5, h6⟩ := h3 c
      have := compL_encF (env := env) enc out pr ds (acc ++ [out d]) (by simp; omega) fun d' hd => h d' (by simp [hd])
      rw [c] at h2
      simp only [Option.bind_some, h2, if_true, h5, if_pos (show acc.length < sizeLine by omega), h6, this, List.filter_cons, c]
      simp
    | false =>
      have h5 := h4 c
      have := compL_encF (env := env) enc out pr ds acc (by omega) fun d' hd => h d' (by simp [hd])
      rw [c] at h2
      simp [h2, h5, this, List.filter_cons, c]
end
end IX

/-! text IX23 -/
set_option maxHeartbeats 1000000
namespace IX
open PySem PySem.Spec PyProof.Rows L2
section
variable {X : Cx}
theorem PSsT.nox {st : List Stmt} {t : TS} (h : PSsT X.nox st t) : PSsT X st t := fun pins s σ H D h0 I hw =>
  wpAny_mono (h pins s σ H D h0 (I.wish _) hw) (fun _ _ q => q.unwish) fun _ _ z => False.elim z
end
section
variable [KC] {E : ExtK} {X : Cx} [KX X] {F H : Hp}
/-! ### join, split -/
def fJoin : PyData → PyData → Option Slot
  | .str z, .list ds => (strsD ds).bind fun ys => if (ys.map (·.length)).sum + ys.length * z.length ≤ 16777216 then some (.pur (.str (Txt.join z ys))) else none
  | _, _ => none
def fSplit : PyData → PyData → Option Slot
  | .str a, .str b => if (b.length == 0) = false ∧ a.length + 2 ≤ sizeLine then some (.own false ((Txt.split a b).map .str)) else none
  | _, _ => none
theorem str_m1 {o e : Expr} {name : Str} {id : String} {apos pos : Pos} {qa qb sa sb : Bool} {eva evb : EvB} {f : PyData → PyData → Option Slot} {r : V → List V → Hp → VK → Prop}
    (slot : PySem.Slot "str" name id) (ty : typeOf (.builtin id) = pure (.type "method_descriptor")) (rule : MtR X id r) (hf : ∀ d e r, f d e = some r → ∃ z, d = .str z)
    (hr : ∀ (x y : V) (d e : PyData) (s : Slot) (F H : Hp) (Q : VK), Ex F H → RpL F H x d → RpL F H y e → f d e = some s → OutV F H s Q → r x [y] H Q)
    (ha : SB E X o qa sa eva) (hb : SB E X e qb sb evb) (hc : (qb || sa) = true := by rfl)
    (hs : starEach [e] X.env = [(false, eval e X.env)] := by rfl) (hbase : attributeBase o name X.env (eval o X.env) = eval o X.env := by rfl) (hline : (apos.endLine == pos.line) = true := by rfl) :
    SE E X (.Call (.Attribute o name apos) [e] [] pos) (qa && qb) (evBin f eva evb) := ⟨fun fr => (pe_m1 slot ty rule (ha.pe fr) (hb.pe fr) hs hbase hline).weak fun σ H Q ⟨F, ow, env, s, env', R, ee, k⟩ => by
  obtain ⟨d, env1, e, h1, h2, h3⟩ := evBin_some ee
  obtain ⟨z, rfl⟩ := hf _ _ _ h3
  refine ⟨F, ow, env, _, env1, R, h1, fun x F1 H1 ow1 R1 g1 q1 r1 => ⟨⟨z, r1.l.str⟩, F1, ow1, env1, e, env', R1, h2, fun y F2 H2 ow2 R2 g2 q2 r2 => ?_⟩⟩
  refine hr x y _ e s F2 H2 Q R2.fh (r1.mono g2 q2 hc) r2.l h3 (out_of R2 (g1.tr g2) (fun z => ?_) k)
  obtain ⟨z1, z2⟩ := Bool.and_eq_true_iff.mp z
  exact (q1 z1).tr (q2 z2)⟩
theorem se_join {o e : Expr} {apos pos : Pos} {qa qb sa sb : Bool} {eva evb : EvB} (ha : SB E X o qa sa eva) (hb : SB E X e qb sb evb) (hc : (qb || sa) = true := by rfl)
    (hs : starEach [e] X.env = [(false, eval e X.env)] := by rfl) (hbase : attributeBase o "join" X.env (eval o X.env) = eval o X.env := by rfl) (hline : (apos.endLine == pos.line) = true := by rfl) :
    SE E X (.Call (.Attribute o "join" apos) [e] [] pos) (qa && qb) (evBin fJoin eva evb) :=
  str_m1 PySem.F.slot_str_join PySem.F.type_str_join mt_join (fun d e r h => by unfold fJoin at h; split at h; exact ⟨_, rfl⟩; cases h) (fun x y d e s F H Q ex hd he h k => by
    unfold fJoin at h
    split at h
    · obtain ⟨ys, h1, h2⟩ := bind2 h
      split at h2
      · rename_i z
        cases h2
        obtain ⟨p, vs, rfl, hp, rp⟩ := he.lst ex
        rw [strsD_map h1] at rp
        have e := RpA.of_strs rp
        subst e
        exact ⟨_, p, ys, hd.str, rfl, .inl (SqL.of hp), z, k.data ex (.str _)⟩
      · cases h2
    · cases h) ha hb hc hs hbase hline
theorem se_split {o e : Expr} {apos pos : Pos} {qa qb sa sb : Bool} {eva evb : EvB} (ha : SB E X o qa sa eva) (hb : SB E X e qb sb evb) (hc : (qb || sa) = true := by rfl)
    (hs : starEach [e] X.env = [(false, eval e X.env)] := by rfl) (hbase : attributeBase o "split" X.env (eval o X.env) = eval o X.env := by rfl) (hline : (apos.endLine == pos.line) = true := by rfl) :
    SE E X (.Call (.Attribute o "split" apos) [e] [] pos) (qa && qb) (evBin fSplit eva evb) :=
  str_m1 PySem.F.slot_str_split PySem.F.type_str_split mt_split (fun d e r h => by unfold fSplit at h; split at h; exact ⟨_, rfl⟩; cases h) (fun x y d e s F H Q ex hd he h k => by
    unfold fSplit at h
    split at h
    · split at h
      · rename_i z
        cases h
        exact ⟨_, _, hd.str, by rw [he.str], z.1, z.2, fun p hp => k.newL ex (RpA.strs _) hp⟩
      · cases h
    · cases h) ha hb hc hs hbase hline
/-! ### replace: one token is out -/
def SSsT (E : ExtK) (X : Cx) (st : List Stmt) (x : EvS) : Prop := ∀ fr, PSsT X st (TSv E fr x)
def SST (E : ExtK) (X : Cx) (st : Stmt) (x : EvS) : Prop := ∀ fr, PST X st (TSv E fr x)
theorem PST.weak {st : Stmt} {t t' : TS} (h : PST X st t) (w : ∀ D σ H, t' D σ H → t D σ H) : PST X st t' := fun pins s σ H D h0 I q => h pins s σ H D h0 I (w _ _ _ q)
theorem PSsT.weak {st : List Stmt} {t t' : TS} (h : PSsT X st t) (w : ∀ D σ H, t' D σ H → t D σ H) : PSsT X st t' := fun pins s σ H D h0 I q => h pins s σ H D h0 I (w _ _ _ q)
theorem sssT_cons {st : Stmt} {sts : List Stmt} {x y : EvS} (h1 : SST E X st x) (h2 : SSs E X sts y) : SSsT E X (st :: sts) (xSeq x y) := fun fr => PSsT.weak (psst_cons (h1 fr) (PSsT.of (h2.ps fr))) fun D σ H ⟨F, ow, env, o, R, ee, k⟩ => by
  unfold xSeq at ee
  split at ee
  · rename_i e1 h
    refine ⟨F, ow, env, _, R, h, fun F' H' ow' σ' R' f => ⟨F', ow', e1, o, R', ee, k.mono f⟩⟩
  · rename_i n
    cases o with
    | nxt e => exact absurd ee (n e)
    | brk e => exact ⟨F, ow, env, _, R, ee, k⟩
    | cnt e => exact ⟨F, ow, env, _, R, ee, k⟩
    | ret r e => exact ⟨F, ow, env, _, R, ee, k⟩
theorem pet_m1 {o e : Expr} {to te : TE} {id : String} {name : Str} {apos pos : Pos} {r : V → List V → Hp → VK → Prop} (slot : PySem.Slot "str" name id) (ty : typeOf (.builtin id) = pure (.type "method_descriptor")) (rule : MtR X id r) (ho : PET X o to) (he : PE X e te)
    (hs : starEach [e] X.env = [(false, eval e X.env)] := by rfl) (hbase : attributeBase o name X.env (eval o X.env) = eval o X.env := by rfl) (hline : (apos.endLine == pos.line) = true := by rfl) :
    PET X (.Call (.Attribute o name apos) [e] [] pos) (tM1 r to te) := by
  intro pins s σ H Q h0 I h
  refine PySem.Call_method1 hbase hs hline (thn (ho pins s σ H _ h0 I h) fun v s1 ⟨x, H1, I1, r1, q1⟩ => ?_)
  obtain ⟨⟨a, rfl⟩, q1⟩ := q1
  obtain ⟨t, rfl⟩ := _root_.id r1
  refine ⟨"str", _, PySem.F.plainAttrs_str, slot, ty, typeIs_str _ _ _, (fun _ e => nomatch e), Calls.callWith_builtin rfl (Calls.evalArgs_plain (Calls.spliced_cons ?_))⟩
  exact thn (he.run pins s1 σ H1 _ I1 q1) fun u s2 ⟨y, H2, I2, r2, q2⟩ => Calls.spliced_nil (rule pins s2 σ H2 _ [y] _ [u] Q I2 r1 (.cons r2 .nil) q2)
def evReplSplit (y z c : Str) (a : EvB) : EvE := fun env => (a env).bind fun p => match p.1 with
  | .str x => if x.length + (x.length + 1) * z.length ≤ 16777216 ∧ (c.length == 0) = false ∧ (Txt.replace x y z).length + 2 ≤ sizeLine then some (.own false ((Txt.split (Txt.replace x y z) c).map .str), p.2) else none
  | _ => none
def SET (E : ExtK) (X : Cx) (e : Expr) (q : Bool) (ev : EvE) : Prop := ∀ fr, PET X e (TQ E fr q ev)
theorem PET.weak {e : Expr} {t t' : TE} (h : PET X e t) (w : ∀ σ H Q, t' σ H Q → t σ H Q) : PET X e t' := fun pins s σ H Q h0 I q => h pins s σ H Q h0 I (w _ _ _ q)
theorem set_replSplit {o : Expr} {y z c : Str} {j k l : Nat} {c0 c1 c2 p1 p2 p3 p4 : Pos} {q st : Bool} {ev : EvB} (ha : SB E X o q st ev) (hyz : (y == z) = false := by decide)
    (hst : starEach [.Constant (.str y) j c0, .Constant (.str z) k c1] X.env = [(false, eval (.Constant (.str y) j c0) X.env), (false, eval (.Constant (.str z) k c1) X.env)] := by rfl)
    (hbase : attributeBase o "replace" X.env (eval o X.env) = eval o X.env := by rfl) (hline : (p1.endLine == p2.line) = true := by rfl)
    (hs : starEach [.Constant (.str c) l c2] X.env = [(false, eval (.Constant (.str c) l c2) X.env)] := by rfl)
    (hbase2 : attributeBase (.Call (.Attribute o "replace" p1) [.Constant (.str y) j c0, .Constant (.str z) k c1] [] p2) "split" X.env (eval (.Call (.Attribute o "replace" p1) [.Constant (.str y) j c0, .Constant (.str z) k c1] [] p2) X.env) = eval (.Call (.Attribute o "replace" p1) [.Constant (.str y) j c0, .Constant (.str z) k c1] [] p2) X.env := by rfl)
    (hline2 : (p3.endLine == p4.line) = true := by rfl) :
    SET E X (.Call (.Attribute (.Call (.Attribute o "replace" p1) [.Constant (.str y) j c0, .Constant (.str z) k c1] [] p2) "split" p3) [.Constant (.str c) l c2] [] p4) q (evReplSplit y z c ev) := fun fr =>
  PET.weak (pet_m1 PySem.F.slot_str_split PySem.F.type_str_split mt_split (CwR.pet_replC (ha.pe fr) hyz hst hbase hline) pe_str hs hbase2 hline2) fun σ H Q ⟨F, ow, env, r, env', R, ee, k⟩ => by
    obtain ⟨⟨d, e1⟩, h1, h⟩ := bind2 ee
    dsimp only at h
    split at h
    · rename_i x
      split at h
      · rename_i hz
        cases h
        refine ⟨F, ow, env, _, _, R, h1, fun v F' H' ow' R' g hq rx => ⟨x, rx.l.str, hz.1, ⟨_, rfl⟩, ?_⟩⟩
        exact ⟨_, _, rfl, rfl, hz.2.1, hz.2.2, fun p hp => (out_of R' g hq k).newL R'.fh (RpA.strs _) hp⟩
      · cases h
    · cases h
def SAsT (E : ExtK) (X : Cx) (es : List Expr) (q : Bool) (ev : EvSL) : Prop := ∀ fr, PAT X es (TAs E fr q ev)
theorem sasT_cons {e : Expr} {es : List Expr} {qa qb : Bool} {a : EvE} {b : EvSL} (ha : SET E X e qa a) (hb : SAs E X es qb b) (hs : starEach (e :: es) X.env = (false, eval e X.env) :: starEach es X.env := by rfl) : SAsT E X (e :: es) (qa && qb) (slC a b) := fun fr pos pins s σ H Q h0 I q =>
  pat_cons (ha fr) (fun pos pins s σ H Q _ I q => (hb.pa fr).run pos pins s σ H Q I q) hs pos pins s σ H Q h0 I (by
    obtain ⟨F, ow, env, rs, env', R, ee, k⟩ := q
    obtain ⟨⟨r, e1⟩, h1, h⟩ := bind2 ee
    obtain ⟨⟨rs', e2⟩, h2, h⟩ := Option.map_eq_some_iff.mp h
    cases h
    refine ⟨F, ow, env, r, e1, R, h1, fun v F1 H1 ow1 R1 g1 q1 r1 => ⟨F1, ow1, e1, rs', e2, R1, h2, fun vs F2 H2 ow2 R2 g2 q2 r2 => ?_⟩⟩
    exact k (v :: vs) F2 H2 ow2 R2 (g1.tr g2) (fun z => (q1 (and1 z)).tr (q2 (and2 z))) (ResL.back r1 g2 ⟨F, g1⟩ r2))
theorem pst_par {i j : Nat} {x y : Str} {a b : Expr} {ta : TA} {px py pt : Pos} {kt k2 pt2} (hc : X.calm = true) (hN : X.N.Nodup) (hi : X.N[i]? = some x) (hj : X.N[j]? = some y) (hij : i ≠ j)
    (hx : X.env.scope.names.lookup x = some .local) (hy : X.env.scope.names.lookup y = some .local) (ha : PAT X [a, b] ta)
    (hw : swappedStores [.Tuple [.Name x px, .Name y py] kt pt] (.Tuple [a, b] k2 pt2) X.env = pure (some [x, y]))
    (hs : swapsWithSole [.Tuple [.Name x px, .Name y py] kt pt] (.Tuple [a, b] k2 pt2) pos.line X.env = pure false := by rfl) :
    PST X (.Assign [.Tuple [.Name x px, .Name y py] kt pt] (.Tuple [a, b] k2 pt2) pos) (tPar i j ta) := by
  intro pins s σ H D h0 I h
  rw [exec_Assign_arm]
  refine wpAny_bind (wpAny_standAt ?_)
  rw [hs]
  refine wpAny_bind (wpAny_pure ?_)
  rw [if_neg (by decide)]
  refine wpAny_bind (Tuple_ (thn (ha _ pins s σ H _ h0 I h) fun us s1 ⟨vs, H1, I1, r1, q1⟩ => ?_))
  obtain ⟨v, w, e1, q1⟩ := q1
  subst e1
  obtain ⟨u1, u2, rfl, rv, rw'⟩ : ∃ u1 u2, us = [u1, u2] ∧ RelV v u1 ∧ RelV w u2 := by
    cases r1 with
    | cons p q =>
      cases q with
      | cons p' q' =>
        cases q'
        exact ⟨_, _, rfl, p, p'⟩
  refine wpAny_newObj_type ?_ (by show 2 ≤ sizeLine; decide)
  have I2 : Inv X pins σ H1 { s1 with heap := s1.heap.push { cls := .type "tuple", data := .seq [u1, u2].toArray } } := I1.kept (t' := s1.toks) fun b o e => Heap.get?_push_of_some _ e
  rw [hw]
  refine wpAny_bind (wpAny_pure ?_)
  show wpAny (model X.prog X.w) X.A (do rule "assign.swapped-stores"; let items ← unpackItems (.ref s1.heap.objs.size) 2 none; assignInOrder [fun v => bindName X.env y v, fun v => bindName X.env x v] items.reverse; pure Flow.next) _ _ _
  refine wpAny_bind (wpAny_rule (wpAny_bind (unpackItems_tuple (items := #[u1, u2]) (I.ok.hd hc) (IsTup.new s1.heap _) fun h' hx' => ?_)))
  have I3 := I2.kept (h' := h') (t' := s1.toks) fun b o e => hx' b o (Nat.ne_of_lt (Heap.lt_size e)) e
  show wpAny _ _ (assignInOrder [fun v => bindName X.env y v, fun v => bindName X.env x v] [u2, u1] >>= fun _ => pure Flow.next) _ _ _
  refine wpAny_bind (assignInOrder_cons (wpAny_bindName (store_ok I3 hN hj (.inl hy) rw' (fun s2 I4 => ?_) (.inr hy))))
  refine assignInOrder_cons (wpAny_bindName (store_ok I4 hN hi (.inl hx) rv (fun s3 I5 => assignInOrder_nil (wpAny_pure ?_)) (.inr hx)))
  rw [List.set_comm _ _ (Ne.symm hij)] at I5
  exact ⟨_, H1, I5, q1⟩
theorem sst_par {i j : Nat} {x y : Str} {a b : Expr} {px py pt pos : Pos} {kt k2 pt2} {q : Bool} {ev : EvSL} (hc : X.calm = true) (hN : X.N.Nodup) (hi : X.N[i]? = some x) (hj : X.N[j]? = some y) (hij : i ≠ j)
    (hx : X.env.scope.names.lookup x = some .local) (hy : X.env.scope.names.lookup y = some .local) (ha : SAsT E X [a, b] q ev)
    (hw : swappedStores [.Tuple [.Name x px, .Name y py] kt pt] (.Tuple [a, b] k2 pt2) X.env = pure (some [x, y]))
    (hs : swapsWithSole [.Tuple [.Name x px, .Name y py] kt pt] (.Tuple [a, b] k2 pt2) pos.line X.env = pure false := by rfl) :
    SST E X (.Assign [.Tuple [.Name x px, .Name y py] kt pt] (.Tuple [a, b] k2 pt2) pos) (xPar [i, j] ev) := fun fr => PST.weak (pst_par hc hN hi hj hij hx hy (ha fr) hw hs) fun D σ H ⟨F, ow, env, o, R, ee, k⟩ => by
  obtain ⟨⟨rs, e1⟩, h1, h⟩ := bind2 ee
  have h : (if npAll e1 [i, j] = true ∧ 2 = rs.length then some (Out.nxt (setSl [i, j] rs e1)) else none) = some o := h
  split at h
  · rename_i z
    cases h
    refine ⟨F, ow, env, rs, e1, R, h1, fun vs F' H' ow' R' g hq rl => ?_⟩
    obtain ⟨ow2, R2⟩ := ResL.stores R' rl (is := [i, j]) z.2 z.1
    have l := rl.len
    rw [← z.2] at l
    match vs, l, R2 with
    | [v, w], _, R2 => exact ⟨v, w, rfl, k F' H' ow2 _ R2 g.f⟩
  · cases h
end
section
variable [KC] {E : ExtK} {P : Program} {w : World} {K : PySem.W.Frag} {mg : Str → Option Value} {base : Heap}
theorem def_okT {x qual : Str} {params : Arguments} {body : List Stmt} {scope : Scope} {dvs : List V} {kws : List (Str × V)} {f : Addr} {fd : FuncData} {N ps : List Str} {k n : Nat} {xb : EvS} (Fd : FunD K x qual params body scope dvs kws f fd) (S : FnScope N ps scope) (hn : ps.length = n)
    (hnc : ∀ y ∈ scope.names, y.2 ≠ .cell) (hps : 1 ≤ ps.length)
    (hb : ∀ (cdv : Value) (A : Around) (outer : List Env) (s : Shared) (H : Hp) (XE : XK), Room k (A.deeper (envOfC qual scope s.heap.objs.size f cdv)) → SSsT E (cxOf CX0 P w K mg base N qual scope f cdv A outer s H XE).nox body xb) :
    FnOk P w K mg base CX0 (k + 1) f fd ps (spI E (runDef N.length xb) n) := by
  obtain ⟨oc, od, dV, kV, doc, pm, an, cdv, ct, osl, rfl, lk, hcd, _, _⟩ := Fd.ex
  refine fn_ofT lk hcd S hnc hps (spI_len hn) fun A outer s H vs Q XE hr h => ?_
  obtain ⟨hl, F0, B, ow, args, r, outs, fh, bh, sep, la, ha, hf, k⟩ := h
  let fr : Fra := ⟨F0, H, B, vs⟩
  refine ⟨TSv E fr xb, PSsT.nox (hb cdv A outer s H XE hr fr), ?_⟩
  have nl : n ≤ N.length := by have := congrArg List.length S.pre; rw [List.length_take] at this; omega
  have R : Rel E fr F0 H ow (args ++ List.replicate (N.length - args.length) .und) (L2.start N vs) := by
    refine ⟨fh, Ex.refl _, bh, fun _ _ _ => rfl, fun _ h => h, sep, ?_, fun i s e => ?_, fun i s e p => ?_⟩
    · unfold L2.start
      rw [List.length_append, List.length_append, List.length_replicate, List.length_replicate, List.length_map]
      omega
    · by_cases hi : i < args.length
      · rw [List.getElem?_append_left hi] at e
        obtain ⟨_, v, hv, hs⟩ := ha i s e
        refine .inr ⟨v, ?_, hs⟩
        unfold L2.start
        rw [List.getElem?_append_left (by rw [List.length_map]; omega), List.getElem?_map, hv]
        rfl
      · rw [List.getElem?_append_right (by omega), List.getElem?_replicate] at e
        split at e
        · cases e; exact .inl rfl
        · cases e
    · by_cases hi : i < args.length
      · rw [List.getElem?_append_left hi] at e
        obtain ⟨_, v, hv, hs⟩ := ha i s e
        refine ⟨v, hv, ?_⟩
        unfold L2.start
        rw [List.getElem?_append_left (by rw [List.length_map]; omega), List.getElem?_map, hv]
        rfl
      · rw [List.getElem?_append_right (by omega), List.getElem?_replicate] at e
        split at e
        · cases e; cases p
        · cases e
  have fin : ∀ {F' H' ow' σ' e' v r}, Rel E fr F' H' ow' e' σ' → Ex F0 F' → outsOf args e' = some outs → r.par = false → r ≠ .und → (∃ S : Addr → Prop, (∀ a, S a → ow' a = none ∧ F' a = none ∧ B a = none ∧ H' a ≠ none) ∧ Sl E F' H' S v r) → Ret E F0 H B vs outs F' H' ow' v r := fun {F' H' ow' σ' e' v r} R' f ho np nu rs =>
    ⟨R'.fh, f, R'.bh, R'.fb, R'.dom, R'.sep, fun i s e p => by
      have ee := outsOf_get ho e p
      obtain ⟨v, h1, h2⟩ := R'.pr i s ee p
      rcases R'.sl i s ee with z | ⟨v', h3, h4⟩
      · subst z; cases p
      · rw [h2] at h3; cases h3; exact ⟨v, h1, h4⟩, np, nu, rs⟩
  unfold runDef at hf
  split at hf
  · rename_i r' e' hx
    obtain ⟨os, h1, h2⟩ := Option.map_eq_some_iff.mp hf
    cases h2
    exact ⟨F0, ow, _, _, R, hx, fun v F' H' ow' σ' H0 ow0 R' f rs => k v F' H' ow' (fin R' f h1 rs.1 rs.2.1 (by
      obtain ⟨_, _, S, hS, hs⟩ := rs
      exact ⟨S, fun a sa => ⟨(hS a sa).1, (hS a sa).2.1, (hS a sa).2.2.1, (hS a sa).2.2.2.1⟩, hs⟩))⟩
  · rename_i e' hx
    obtain ⟨os, h1, h2⟩ := Option.map_eq_some_iff.mp hf
    cases h2
    exact ⟨F0, ow, _, _, R, hx, fun F' H' ow' σ' R' f => k .non F' H' ow' (fin R' f h1 rfl (fun z => nomatch z) ⟨fun _ => False, fun _ z => z.elim, .non⟩)⟩
  · cases hf

/-! readings -/
end
section
variable {env : SEnv}
@[simp] theorem e_join {z : Str} {ds : List PyData} : fJoin (.str z) (.list ds) = (strsD ds).bind fun ys => if (ys.map (·.length)).sum + ys.length * z.length ≤ 16777216 then some (.pur (.str (Txt.join z ys))) else none := rfl
@[simp] theorem e_split {a b : Str} : fSplit (.str a) (.str b) = (if (b.length == 0) = false ∧ a.length + 2 ≤ sizeLine then some (.own false ((Txt.split a b).map .str)) else none) := rfl
@[simp] theorem e_replSplit {y z c : Str} {a : EvB} : evReplSplit y z c a env = ((a env).bind fun p => match p.1 with
  | .str x => if x.length + (x.length + 1) * z.length ≤ 16777216 ∧ (c.length == 0) = false ∧ (Txt.replace x y z).length + 2 ≤ sizeLine then some (.own false ((Txt.split (Txt.replace x y z) c).map .str), p.2) else none
  | _ => none) := rfl
end
end IX

/-! text IX24 -/
set_option maxHeartbeats 1000000
namespace IX
open PySem PySem.Spec PyProof.Rows L2
section
variable {X : Cx}
/-! ### if x == 'c': a token is out behind the test -/
theorem ps_ifTok {l : Expr} {c : Str} {k : Nat} {ip pos pos2 : Pos} {a b : List Stmt} {op : CmpOp} {r : R2} {ta : TE} {t u : TS} (ho : OpR X (compareOp op) r) (hl : PE X l ta) (ha : PSsT X a t) (hb : PSsT X b u)
    (hm : behindInMarks op (.Constant (.str c) k ip) = false) : PS X (.If (.Compare l [op] [.Constant (.str c) k ip] pos) a b pos2) (tIfS (tTest (tOp r ta (tC (.str c)))) t u) := by
  refine ⟨fun pins s σ H D I h => ?_⟩
  refine wpAny_If ?_
  refine wpAny_isTrue_Compare1 (thn (hl.run pins s σ H _ I h) fun v s1 ⟨x, H1, I1, r1, q1⟩ => Calls.Constant_str ?_) hm
  have I2 : L2.Inv X pins σ H1 { s1 with toks := s1.toks + 1 } := I1.tok _
  refine wpAny_mono (PySem.wpAny_toks (ho pins { s1 with toks := s1.toks + 1 } σ H1 x (.str c) v (.str c s1.toks) _ I2 r1 ⟨_, rfl⟩ q1)) (fun d s3 q => ?_) fun _ _ z => z.2
  obtain ⟨hk, z, H3, I3, r3, kk, e, q3⟩ := q
  subst e
  cases r3
  have h1 : 1 ≤ s3.toks := Nat.le_trans (Nat.le_add_left 1 s1.toks) hk
  refine wpAny_truthy_bool ?_
  cases kk with
  | true => exact ha pins s3 σ H3 D h1 I3 q3
  | false => exact hb pins s3 σ H3 D h1 I3 q3
theorem pst_set {i : Nat} {x : Str} {e : Expr} {te : TE} {pos pos' : Pos} (hN : X.N.Nodup) (hi : X.N[i]? = some x) (hx : Loc X.env.scope x) (he : PET X e te) (hs : swapsWith e (some (.Name x pos')) pos.line X.env = pure false := by rfl) (hf : X.fn x = true ∨ X.env.scope.names.lookup x = some .local) :
    PST X (.Assign [.Name x pos'] e pos) (tAsg te (gName i)) := by
  intro pins s σ H D h0 I h
  refine wpAny_Assign_Name (thn (he pins s σ H _ h0 I h) fun v s1 ⟨y, H1, I1, r1, q1⟩ => ?_) hs
  exact store_ok I1 hN hi hx r1 (fun s2 I2 => ⟨_, H1, I2, q1⟩) hf
end
section
variable [KC] {E : ExtK} {X : Cx} [KX X] {F H : Hp}
theorem ss_ifTok {l : Expr} {c : Str} {j : Nat} {ip pos pos2 : Pos} {as bs : List Stmt} {op : CmpOp} {f : PyData → PyData → Option Slot} {qa sa : Bool} {eva : EvB} {x y : EvS} (ho : BinV X (compareOp op) f) (ha : SB E X l qa sa eva) (hx : SSsT E X as x) (hy : SSsT E X bs y)
    (hm : behindInMarks op (.Constant (.str c) j ip) = false) : SS E X (.If (.Compare l [op] [.Constant (.str c) j ip] pos) as bs pos2) (xIf (evTr (evBin f eva (evC (.str c)))) x y) := ⟨fun fr => (ps_ifTok ho (ha.pe fr) (hx fr) (hy fr) hm).weak fun D σ H ⟨F, ow, env, o, R, ee, k⟩ => by
  obtain ⟨⟨b, e1⟩, h1, h⟩ := bind2 ee
  obtain ⟨d, env1, e, h1', h2, h3⟩ := evBin_some (evTr_some h1)
  have hb : ∀ σ H Q, TB E fr true true (evC (.str c)) σ H Q → tC (.str c) σ H Q := fun σ H Q ⟨F, ow, env, d, env', R, ee, k⟩ => by
    cases ee
    exact k (.str c) F H ow R Grow.refl (fun _ => Ex.refl _) (.inl (.str c))
  have go : tTest (tOp (rBinV f) (TB E fr qa sa eva) (tC (.str c))) σ H fun b' H1 => if b' = true then TSv E fr x D σ H1 else TSv E fr y D σ H1 := by
    refine two (fun _ _ _ z => z) hb rfl R h1' h2 fun x' y' F' H' ow' R' g hq rx ry => ?_
    refine ⟨F', d, e, _, R'.fh, rx, ry.l, h3, out_of (q := qa && true) R' g hq fun v F2 H2 ow2 R2 g2 q2 r2 => ?_⟩
    obtain ⟨_, _, S, _, hs⟩ := r2
    cases hs
    refine ⟨_, rfl, ?_⟩
    cases b with
    | true => exact iteT ⟨F2, ow2, e1, o, R2, h, k.mono g2.f⟩
    | false => exact iteF ⟨F2, ow2, e1, o, R2, h, k.mono g2.f⟩
  exact go⟩
theorem sst_of {st : Stmt} {x : EvS} (h : SS E X st x) : SST E X st x := fun fr => PST.of (h.ps fr)
theorem sssT_one {st : Stmt} {x : EvS} (h : SST E X st x) : SSsT E X [st] x := fun fr => PSsT.weak (CwR.psst_one (h fr)) fun _ _ _ z => z
theorem sssT_of {sts : List Stmt} {x : EvS} (h : SSs E X sts x) : SSsT E X sts x := fun fr => PSsT.of (h.ps fr)
def evRepl (y z : Str) (a : EvB) : EvE := fun env => (a env).bind fun p => match p.1 with
  | .str x => if x.length + (x.length + 1) * z.length ≤ 16777216 then some (.pur (.str (Txt.replace x y z)), p.2) else none
  | _ => none
theorem set_repl {o : Expr} {y z : Str} {j k : Nat} {c0 c1 p1 p2 : Pos} {q st : Bool} {ev : EvB} (ha : SB E X o q st ev) (hyz : (y == z) = false := by decide)
    (hst : starEach [.Constant (.str y) j c0, .Constant (.str z) k c1] X.env = [(false, eval (.Constant (.str y) j c0) X.env), (false, eval (.Constant (.str z) k c1) X.env)] := by rfl)
    (hbase : attributeBase o "replace" X.env (eval o X.env) = eval o X.env := by rfl) (hline : (p1.endLine == p2.line) = true := by rfl) :
    SET E X (.Call (.Attribute o "replace" p1) [.Constant (.str y) j c0, .Constant (.str z) k c1] [] p2) q (evRepl y z ev) := fun fr =>
  PET.weak (CwR.pet_replC (ha.pe fr) hyz hst hbase hline) fun σ H Q ⟨F, ow, env, r, env', R, ee, k⟩ => by
    obtain ⟨⟨d, e1⟩, h1, h⟩ := bind2 ee
    dsimp only at h
    split at h
    · rename_i x
      split at h
      · rename_i hz
        cases h
        exact ⟨F, ow, env, _, _, R, h1, fun v F' H' ow' R' g hq rx => ⟨x, rx.l.str, hz, (out_of R' g hq k).data R'.fh (.str _)⟩⟩
      · cases h
    · cases h
theorem sst_set {i : Nat} {z : Str} {e : Expr} {pos pos' : Pos} {q : Bool} {ev : EvE} (hN : X.N.Nodup) (hi : X.N[i]? = some z) (hx : Loc X.env.scope z) (h : SET E X e q ev) (hs : swapsWith e (some (.Name z pos')) pos.line X.env = pure false := by rfl)
    (hf : X.fn z = true ∨ X.env.scope.names.lookup z = some .local := by first | exact .inl rfl | exact .inr rfl | assumption) : SST E X (.Assign [.Name z pos'] e pos) (xSet i ev) := fun fr => PST.weak (pst_set hN hi hx (h fr) hs hf) fun D σ H ⟨F, ow, env, o, R, ee, k⟩ => by
  obtain ⟨⟨r, e1⟩, h1, h⟩ := bind2 ee
  obtain ⟨e2, h2, h⟩ := Option.map_eq_some_iff.mp h
  cases h
  obtain ⟨s, h3, h4, rfl⟩ := stS_some h2
  refine ⟨F, ow, env, r, e1, R, h1, fun v F' H' ow' R' g hq rs => ?_⟩
  obtain ⟨ow2, R2⟩ := R'.store h3 h4 rs
  exact k F' H' ow2 _ R2 g.f
/-! is, is not of truth values -/
def fIsB : PyData → PyData → Option Slot
  | .bool a, .bool b => some (.pur (.bool (decide (a = b))))
  | _, _ => none
def fIsnB : PyData → PyData → Option Slot
  | .bool a, .bool b => some (.pur (.bool (!decide (a = b))))
  | _, _ => none
theorem bv_isB : BinV X (compareOp .Is) fIsB := .of op_is_bl fun x y H Q F d e r ex hd he hr k => by
  unfold fIsB at hr
  split at hr
  · cases hr
    exact ⟨_, _, hd.bl, he.bl, k.data ex (.bl _)⟩
  · cases hr
theorem bv_isnB : BinV X (compareOp .IsNot) fIsnB := .of op_isnot_bl fun x y H Q F d e r ex hd he hr k => by
  unfold fIsnB at hr
  split at hr
  · cases hr
    exact ⟨_, _, hd.bl, he.bl, k.data ex (.bl _)⟩
  · cases hr
end
section
variable {env : SEnv}
@[simp] theorem e_repl {y z : Str} {a : EvB} : evRepl y z a env = ((a env).bind fun p => match p.1 with
  | .str x => if x.length + (x.length + 1) * z.length ≤ 16777216 then some (.pur (.str (Txt.replace x y z)), p.2) else none
  | _ => none) := rfl
@[simp] theorem e_isB {a b : Bool} : fIsB (.bool a) (.bool b) = some (.pur (.bool (decide (a = b)))) := rfl
@[simp] theorem e_isnB {a b : Bool} : fIsnB (.bool a) (.bool b) = some (.pur (.bool (!decide (a = b)))) := rfl
end
end IX

/-! text IX25 -/
set_option maxHeartbeats 1000000
namespace IX
open PySem PySem.Spec PyProof.Rows L2
section
variable [KC] {E : ExtK} {fr : Fra} {F H H0 : Hp} {ow ow0 : Ow} {U : Addr → Prop} {vs : List V} {rs : List Slot}
/-- a nameless object beside several results -/
theorem ResL.tmp {p : Addr} {o : HO} (hp : H p = none) (h : ResL E fr H0 ow0 F H ow U vs rs) : ResL E fr H0 ow0 F (upd H p o) ow U vs rs := by
  induction h with
  | nil => exact .nil
  | cons p' n s sl t ih =>
    have ne : ∀ a, H a ≠ none → upd H p o a = H a := fun a ha => by
      have : a ≠ p := fun e => ha (by rw [e]; exact hp)
      simp [upd, this]
    refine .cons p' n (fun a sa => ?_) (sl.mono E (Ex.refl _) (fun _ z => z) fun a sa => ne a (s a sa).2.2.2.1) ih
    obtain ⟨h1, h2, h3, h4, h5, h6⟩ := s a sa
    exact ⟨h1, h2, h3, by rw [ne a h4]; exact h4, h5, h6⟩
end
section
variable [KC] {E : ExtK} {X : Cx} [KX X] {F H : Hp}
/-- a, b, c = x, y, z with names that are cells -/
theorem ss_par3c {i j l : Nat} {x y z : Str} {a b c : Expr} {px py pz pt pos : Pos} {kt k2 pt2} {q : Bool} {ev : EvSL} (hc : X.calm = true) (hN : X.N.Nodup) (hi : X.N[i]? = some x) (hj : X.N[j]? = some y) (hl : X.N[l]? = some z)
    (hx : Loc X.env.scope x) (hy : Loc X.env.scope y) (hz : Loc X.env.scope z) (ha : SAs E X [a, b, c] q ev)
    (hs : swapsWithSole [.Tuple [.Name x px, .Name y py, .Name z pz] kt pt] (.Tuple [a, b, c] k2 pt2) pos.line X.env = pure false := by rfl)
    (hw : swappedStores [.Tuple [.Name x px, .Name y py, .Name z pz] kt pt] (.Tuple [a, b, c] k2 pt2) X.env = pure none := by rfl)
    (h1 : (assignEach [.Tuple [.Name x px, .Name y py, .Name z pz] kt pt] X.env).map (·.2) = [assign (.Tuple [.Name x px, .Name y py, .Name z pz] kt pt) X.env] := by rfl)
    (g1 : (assignEach [.Name x px, .Name y py, .Name z pz] X.env).map (·.2) = assign (.Name x px) X.env :: (assignEach [.Name y py, .Name z pz] X.env).map (·.2) := by rfl)
    (g2 : (assignEach [.Name y py, .Name z pz] X.env).map (·.2) = assign (.Name y py) X.env :: (assignEach [.Name z pz] X.env).map (·.2) := by rfl)
    (g3 : (assignEach [.Name z pz] X.env).map (·.2) = assign (.Name z pz) X.env :: (assignEach [] X.env).map (·.2) := by rfl)
    (g4 : (assignEach [.Name x px, .Name y py, .Name z pz] X.env).length = 3 := by rfl) (g5 : (assignEach [.Name x px, .Name y py, .Name z pz] X.env).findIdx? (·.1) = none := by rfl)
    (f1 : X.fn x = true ∨ X.env.scope.names.lookup x = some .local := by first | exact .inl rfl | exact .inr rfl) (f2 : X.fn y = true ∨ X.env.scope.names.lookup y = some .local := by first | exact .inl rfl | exact .inr rfl) (f3 : X.fn z = true ∨ X.env.scope.names.lookup z = some .local := by first | exact .inl rfl | exact .inr rfl) :
    SS E X (.Assign [.Tuple [.Name x px, .Name y py, .Name z pz] kt pt] (.Tuple [a, b, c] k2 pt2) pos) (xPar [i, j, l] ev) :=
  ⟨fun fr => (ps_asg (pe_tup (ha.pa fr)) (pg_tup hc (pgs_cons (pg_name hN hi hx f1) (pgs_cons (pg_name hN hj hy f2) (pgs_cons (pg_name hN hl hz f3) pgs_nil g3) g2) g1) g4 g5) hs hw h1).weak fun D σ H ⟨F, ow, env, o, R, ee, k⟩ => by
  obtain ⟨⟨rs, e1⟩, h1, h⟩ := bind2 ee
  have h : (if npAll e1 [i, j, l] = true ∧ 3 = rs.length then some (Out.nxt (setSl [i, j, l] rs e1)) else none) = some o := h
  split at h
  · rename_i z
    cases h
    refine ⟨F, ow, env, rs, e1, R, h1, fun vs F' H' ow' R' g hq rl => ?_⟩
    have ln := rl.len
    rw [← z.2] at ln
    refine ⟨by rw [ln]; decide, fun p hp => ?_⟩
    have al : Alloc F' H' F' (upd H' p (.tup vs)) := Alloc.tmp R'.fh hp
    have R1 := R'.alloc al
    obtain ⟨ow2, R2⟩ := ResL.stores R1 (rl.tmp (o := .tup vs) hp) (is := [i, j, l]) z.2 z.1
    refine ⟨p, vs, rfl, .inl (.inl upd_same), ln, ?_⟩
    match vs, ln, R2 with
    | [v, w, u], _, R2 => exact ⟨v, [w, u], rfl, w, [u], rfl, u, [], rfl, rfl, k F' _ ow2 _ R2 g.f⟩
  · cases h⟩
end
end IX

/-! text IX26 -/
set_option maxHeartbeats 1000000
namespace IX
open PySem PySem.Spec PyProof.Rows L2
/-- the text backwards -/
def revS (z : Str) : Str := ⟨z.cps.toList.reverse.toArray⟩
theorem revS_length (z : Str) : (revS z).length = z.length := by
  show (z.cps.toList.reverse.toArray).size = z.cps.size
  rw [List.size_toArray, List.length_reverse, Array.length_toList]
theorem pick_rev (z : Str) : ((Builtin.Str.strSliceIndices none none (-1) z.length).filterMap (z.cps[·]?)) = z.cps.toList.reverse := by
  have h1 : Builtin.Str.strSliceIndices none none (-1) z.length = sliceRange ((z.length : Int) - 1) (-1) (-1) := by
    simp [Builtin.Str.strSliceIndices]
  rw [h1]
  show (sliceRange ((z.cps.size : Int) - 1) (-1) (-1)).filterMap (z.cps[·]?) = _
  rw [PySem.W.krv_sliceRange, PySem.W.krv_range, List.filterMap_reverse]
  congr 1
  exact List.ext_getElem? fun i => by
    have := PySem.W.krv_all z.cps
    rw [this]
section
variable {X : Cx}
def tRevS (te : TE) : TE := fun σ H Q => te σ H fun x H1 => ∃ z, x = .str z ∧ z.length ≤ sizeLine ∧ Q (.str (revS z)) H1
theorem pe_revS {e : Expr} {te : TE} {k : Nat} {p1 p2 p3 pos : Pos} (he : PE X e te) : PE X (.Subscript e (.Slice none none (some (.UnaryOp .USub (.Constant (.int 1) k p1) p2)) p3) pos) (tRevS te) := by
  refine ⟨fun pins s σ H Q I h => ?_⟩
  refine Subscript_ (thn (he.run pins s σ H _ I h) fun v s1 ⟨x, H1, I1, r1, q1⟩ => ?_)
  obtain ⟨z, ex, hz, q⟩ := q1
  subst ex
  obtain ⟨t, rfl⟩ := r1
  have hst : PO X (some (.UnaryOp .USub (.Constant (.int 1) k p1) p2)) (tPart (tUn (rU fun i => .int (-i)) (tC (.int 1)))) := po_some (pe_un un_neg pe_int)
  refine wpAny_Slice (thn (po_none.run pins s1 σ H1 (fun o H2 => o = none ∧ H2 = H1) I1 ⟨rfl, rfl⟩) fun vl s2 ⟨l, H2, I2, pl, el, e2⟩ => ?_)
  subst el e2
  refine thn (po_none.run pins s2 σ H2 (fun o H3 => o = none ∧ H3 = H2) I2 ⟨rfl, rfl⟩) fun vu s3 ⟨u, H3, I3, pu, eu, e3⟩ => ?_
  subst eu e3
  refine thn (hst.run pins s3 σ H3 (fun o H4 => o = some (-1) ∧ H4 = H3) I3 ⟨1, rfl, -1, rfl, rfl, rfl⟩) fun vs s4 ⟨o, H4, I4, ps, eo, e4⟩ => ?_
  subst eo e4
  have I5 : Inv X pins σ H4 { s4 with heap := s4.heap.push { cls := .type "slice", data := .fields #[vl, vu, vs] } } := I4.kept (t' := s4.toks) fun b ob q => Heap.get?_push_of_some _ q
  obtain ⟨l, rfl, hl⟩ := IsPart.raw pl
  obtain ⟨u, rfl, hu⟩ := IsPart.raw pu
  obtain ⟨w, rfl, hw⟩ := IsPart.raw ps
  have el : l = none := by cases l with | none => rfl | some _ => cases hl
  have eu : u = none := by cases u with | none => rfl | some _ => cases hu
  subst el eu
  cases w with
  | none => cases hw
  | some w =>
  obtain ⟨w1, w2⟩ := w
  cases hw
  show wpAny (model X.prog X.w) X.A (subscriptTail e (.Slice none none (some (.UnaryOp .USub (.Constant (.int 1) k p1) p2)) p3) (.str z t) (.ref s4.heap.objs.size)) (EP X pins σ Q) X.xe _
  refine tail_any (ops := [.ref s4.heap.objs.size, .str z t]) (typeIs_str _ _ _) (F.slot_str_getitem.lookup) ?_ (by with_unfolding_all rfl)
  refine wpAny_getItem_str_slice (l := none) (u := none) (st := some (-1, w2)) ⟨_, Heap.get?_push_size _ rfl, rfl, rfl⟩ rfl ?_
  show Made.post (if ((-1 : Int) == 1 && (Builtin.Str.strSliceIndices none none (-1) z.length).length == z.length) = true then Made.val (.str z t)
    else Made.str ⟨((Builtin.Str.strSliceIndices none none (-1) z.length).filterMap (z.cps[·]?)).toArray⟩) (EP X pins σ Q) _
  rw [if_neg (by simp), pick_rev]
  refine ⟨?_, .str _, _, I5.tok _, ⟨_, rfl⟩, q⟩
  show (revS z).length ≤ sizeLine
  rw [revS_length]
  exact hz
end
section
variable [KC] {E : ExtK} {X : Cx} [KX X] {F H : Hp}
def evRevS (a : EvB) : EvE := fun env => (a env).bind fun p => match p.1 with
  | .str z => if z.length ≤ sizeLine then some (.pur (.str (revS z)), p.2) else none
  | _ => none
theorem se_revS {o : Expr} {k : Nat} {p1 p2 p3 pos : Pos} {q st : Bool} {ev : EvB} (ha : SB E X o q st ev) : SE E X (.Subscript o (.Slice none none (some (.UnaryOp .USub (.Constant (.int 1) k p1) p2)) p3) pos) q (evRevS ev) := ⟨fun fr =>
  (pe_revS (ha.pe fr)).weak fun σ H Q ⟨F, ow, env, r, env', R, ee, k⟩ => by
    obtain ⟨⟨d, e1⟩, h1, h⟩ := bind2 ee
    dsimp only at h
    split at h
    · rename_i x
      split at h
      · rename_i hz
        cases h
        exact ⟨F, ow, env, _, _, R, h1, fun v F' H' ow' R' g hq rx => ⟨x, rx.l.str, hz, (out_of R' g hq k).data R'.fh (.str _)⟩⟩
      · cases h
    · cases h⟩
theorem sssT_consT {st : Stmt} {sts : List Stmt} {x y : EvS} (h1 : SST E X st x) (h2 : SSsT E X sts y) : SSsT E X (st :: sts) (xSeq x y) := fun fr => PSsT.weak (psst_cons (h1 fr) (h2 fr)) fun D σ H ⟨F, ow, env, o, R, ee, k⟩ => by
  unfold xSeq at ee
  split at ee
  · rename_i e1 h
    refine ⟨F, ow, env, _, R, h, fun F' H' ow' σ' R' f => ⟨F', ow', e1, o, R', ee, k.mono f⟩⟩
  · rename_i n
    cases o with
    | nxt e => exact absurd ee (n e)
    | brk e => exact ⟨F, ow, env, _, R, ee, k⟩
    | cnt e => exact ⟨F, ow, env, _, R, ee, k⟩
    | ret r e => exact ⟨F, ow, env, _, R, ee, k⟩
theorem sst_ifE {q : Bool} {t : EvT} {c : Expr} {as bs : List Stmt} {pos : Pos} {x y : EvS} (ht : ST E X c q t) (ha : SSsT E X as x) (hb : SSsT E X bs y) : SST E X (.If c as bs pos) (xIf t x y) := fun fr => PST.weak (CwR.pst_if (ht.pt fr) (ha fr) (hb fr)) fun D σ H ⟨F, ow, env, o, R, ee, k⟩ => by
  obtain ⟨⟨c, e1⟩, h1, h⟩ := bind2 ee
  refine ⟨F, ow, env, c, e1, R, h1, fun F' H' ow' R' g hq => ?_⟩
  cases c with
  | true => exact iteT ⟨F', ow', e1, o, R', h, k.mono g.f⟩
  | false => exact iteF ⟨F', ow', e1, o, R', h, k.mono g.f⟩
theorem sst_ret {q : Bool} {e : Expr} {pos : Pos} {ev : EvE} (h : SET E X e q ev) : SST E X (.Return (some e) pos) (xRet ev) := fun fr => PST.weak (CwR.pst_ret (h fr)) fun D σ H ⟨F, ow, env, o, R, ee, k⟩ => by
  obtain ⟨⟨r, e1⟩, h1, h⟩ := Option.map_eq_some_iff.mp ee
  cases h
  exact ⟨F, ow, env, r, e1, R, h1, fun v F' H' ow' R' g hq rs => k v F' H' ow' σ _ _ R' g.f rs⟩
end
section
variable {env : SEnv}
@[simp] theorem e_revS {a : EvB} : evRevS a env = ((a env).bind fun p => match p.1 with
  | .str z => if z.length ≤ sizeLine then some (.pur (.str (revS z)), p.2) else none
  | _ => none) := rfl
end
end IX

/-! text IX27 -/
set_option maxHeartbeats 1000000
namespace IX
open PySem PySem.Spec PyProof.Rows L2
section
variable [KC] {E : ExtK} {X : Cx} [KX X] {F H : Hp}
/-! ### {'k': n, ..}[e] of three written keys -/
def evD3 (k1 k2 k3 : Str) (v1 v2 v3 : Int) (ev : EvB) : EvB := fun env => match ev env with
  | some (.str z, env') => if z = k1 then some (.int v1, env') else if z = k2 then some (.int v2, env') else if z = k3 then some (.int v3, env') else none
  | _ => none
theorem d3_merge {k1 k2 k3 : Str} {v1 v2 v3 : Int} (h12 : k1 ≠ k2) (h13 : k1 ≠ k3) (h23 : k2 ≠ k3) :
    mergeK [] [(.inr k1, .int v1), (.inr k2, .int v2), (.inr k3, .int v3)] = ([(.inr k1, .int v1), (.inr k2, .int v2), (.inr k3, .int v3)] : List (Key × V)) := by
  simp [mergeK, putK, h12, h13, h23]
theorem sp_d3 {k1 k2 k3 : Str} {v1 v2 v3 : Int} {j1 j2 j3 l1 l2 l3 : Nat} {p1 p2 p3 q1 q2 q3 dpos pos : Pos} {i : Expr} {st : Bool} {ev : EvB} (hu : X.A.units + 64 < cLine) (h12 : k1 ≠ k2) (h13 : k1 ≠ k3) (h23 : k2 ≠ k3) (h : SB E X i true st ev) (hs : NoSl i) :
    SP E X (.Subscript (.Dict [some (.Constant (.str k1) j1 p1), some (.Constant (.str k2) j2 p2), some (.Constant (.str k3) j3 p3)] [.Constant (.int v1) l1 q1, .Constant (.int v2) l2 q2, .Constant (.int v3) l3 q3] dpos) i pos) true (evD3 k1 k2 k3 v1 v2 v3 ev) := ⟨fun fr =>
  (pe_dget (by omega) (pe_disp (pps_cons pe_str pe_int (pps_cons pe_str pe_int (pps_cons pe_str pe_int pps_nil))) rfl rfl (by simp) (by simp)) (h.pe fr) hs).weak fun σ H Q ⟨F, ow, env, d, env', R, ee, k⟩ => by
    intro p hp
    refine ⟨upd_same, [(.inr k1, .int v1), (.inr k2, .int v2), (.inr k3, .int v3)], rfl, by simp, ?_⟩
    rw [d3_merge h12 h13 h23]
    have ud : ∀ a b : HO, upd (upd H p a) p b = upd H p b := fun a b => by funext x; unfold upd; split <;> rfl
    rw [ud]
    unfold evD3 at ee
    split at ee
    · rename_i z e1 g1
      have al : Alloc F H F (upd H p (.dK [(.inr k1, .int v1), (.inr k2, .int v2), (.inr k3, .int v3)])) := Alloc.tmp R.fh hp
      have key : ∀ n : Int, d = .int n → env' = e1 → valV ([(.inr k1, .int v1), (.inr k2, .int v2), (.inr k3, .int v3)] : List (Key × V)) (.inr z) = some (.int n) → TB E fr true st ev σ (upd H p (.dK [(.inr k1, .int v1), (.inr k2, .int v2), (.inr k3, .int v3)])) (fun y H2 => ∃ a v, V.ref p = .ref a ∧ DGet H2 a y (some v) ∧ Q v H2) := fun n hd he hv => by
        subst hd he
        refine ⟨F, ow, env, .str z, _, R.alloc al, g1, fun v F' H' ow' R' g hq rv => ⟨p, .int n, rfl, .inl ⟨_, .inr z, .inl (hq rfl _ _ upd_same), rv.l.str, hv.symm⟩, ?_⟩⟩
        exact k (.int n) F' H' ow' R' ((al.grow R).tr g) (fun _ => al.h.tr (hq rfl)) (.int n)
      split at ee
      · rename_i c
        cases ee
        exact key v1 rfl rfl (by rw [valV_pos (by rw [c])])
      · rename_i c1
        split at ee
        · rename_i c
          cases ee
          exact key v2 rfl rfl (by rw [valV_neg (fun e => c1 (Sum.inr.inj e).symm), valV_pos (by rw [c])])
        · rename_i c2
          split at ee
          · rename_i c
            cases ee
            exact key v3 rfl rfl (by rw [valV_neg (fun e => c1 (Sum.inr.inj e).symm), valV_neg (fun e => c2 (Sum.inr.inj e).symm), valV_pos (by rw [c])])
          · cases ee
    · cases ee⟩
/-! ### in, not in: items of any depth -/
theorem hu65 {k : Nat} {A : Around} (r : Room k A) : A.units + 65 < cLine := by have := r.un; omega
def fInD (neg : Bool) : PyData → PyData → Option Slot
  | d, .list es => if (SeqAt.shaped d && SeqAt.shaped (.list es)) = true then some (.pur (.bool (if neg = true then !(es.any fun e => PyData.eqv e d) else es.any fun e => PyData.eqv e d))) else none
  | _, _ => none
theorem bv_inD (hu : X.A.units + 65 < cLine) : BinV X (compareOp .In) (fInD false) := .of (op_inD hu) fun x y H Q F d e r ex hd he hr k => by
  unfold fInD at hr
  split at hr
  · split at hr
    · rename_i z
      cases hr
      obtain ⟨h1, h2⟩ := Bool.and_eq_true_iff.mp z
      exact ⟨_, _, RpL.dp ex hd, RpL.dp ex he, h1, h2, k.data ex (.bl _)⟩
    · cases hr
  · cases hr
theorem bv_notInD (hu : X.A.units + 65 < cLine) : BinV X (compareOp .NotIn) (fInD true) := .of (op_notInD hu) fun x y H Q F d e r ex hd he hr k => by
  unfold fInD at hr
  split at hr
  · split at hr
    · rename_i z
      cases hr
      obtain ⟨h1, h2⟩ := Bool.and_eq_true_iff.mp z
      exact ⟨_, _, RpL.dp ex hd, RpL.dp ex he, h1, h2, k.data ex (.bl _)⟩
    · cases hr
  · cases hr
/-- a, b = x, y with names that are cells -/
theorem ss_par2c {i j : Nat} {x y : Str} {a b : Expr} {px py pt pos : Pos} {kt k2 pt2} {q : Bool} {ev : EvSL} (hc : X.calm = true) (hN : X.N.Nodup) (hi : X.N[i]? = some x) (hj : X.N[j]? = some y)
    (hx : Loc X.env.scope x) (hy : Loc X.env.scope y) (ha : SAs E X [a, b] q ev)
    (hs : swapsWithSole [.Tuple [.Name x px, .Name y py] kt pt] (.Tuple [a, b] k2 pt2) pos.line X.env = pure false := by rfl)
    (hw : swappedStores [.Tuple [.Name x px, .Name y py] kt pt] (.Tuple [a, b] k2 pt2) X.env = pure none := by rfl)
    (h1 : (assignEach [.Tuple [.Name x px, .Name y py] kt pt] X.env).map (·.2) = [assign (.Tuple [.Name x px, .Name y py] kt pt) X.env] := by rfl)
    (g1 : (assignEach [.Name x px, .Name y py] X.env).map (·.2) = assign (.Name x px) X.env :: (assignEach [.Name y py] X.env).map (·.2) := by rfl)
    (g2 : (assignEach [.Name y py] X.env).map (·.2) = assign (.Name y py) X.env :: (assignEach [] X.env).map (·.2) := by rfl)
    (g4 : (assignEach [.Name x px, .Name y py] X.env).length = 2 := by rfl) (g5 : (assignEach [.Name x px, .Name y py] X.env).findIdx? (·.1) = none := by rfl)
    (f1 : X.fn x = true ∨ X.env.scope.names.lookup x = some .local := by first | exact .inl rfl | exact .inr rfl) (f2 : X.fn y = true ∨ X.env.scope.names.lookup y = some .local := by first | exact .inl rfl | exact .inr rfl) :
    SS E X (.Assign [.Tuple [.Name x px, .Name y py] kt pt] (.Tuple [a, b] k2 pt2) pos) (xPar [i, j] ev) :=
  ⟨fun fr => (ps_asg (pe_tup (ha.pa fr)) (pg_tup hc (pgs_cons (pg_name hN hi hx f1) (pgs_cons (pg_name hN hj hy f2) pgs_nil g2) g1) g4 g5) hs hw h1).weak fun D σ H ⟨F, ow, env, o, R, ee, k⟩ => by
  obtain ⟨⟨rs, e1⟩, h1, h⟩ := bind2 ee
  have h : (if npAll e1 [i, j] = true ∧ 2 = rs.length then some (Out.nxt (setSl [i, j] rs e1)) else none) = some o := h
  split at h
  · rename_i z
    cases h
    refine ⟨F, ow, env, rs, e1, R, h1, fun vs F' H' ow' R' g hq rl => ?_⟩
    have ln := rl.len
    rw [← z.2] at ln
    refine ⟨by rw [ln]; decide, fun p hp => ?_⟩
    have al : Alloc F' H' F' (upd H' p (.tup vs)) := Alloc.tmp R'.fh hp
    have R1 := R'.alloc al
    obtain ⟨ow2, R2⟩ := ResL.stores R1 (rl.tmp (o := .tup vs) hp) (is := [i, j]) z.2 z.1
    refine ⟨p, vs, rfl, .inl (.inl upd_same), ln, ?_⟩
    match vs, ln, R2 with
    | [v, w], _, R2 => exact ⟨v, [w], rfl, w, [], rfl, rfl, k F' _ ow2 _ R2 g.f⟩
  · cases h⟩
end
section
variable {env : SEnv}
@[simp] theorem e_inD {neg : Bool} {d : PyData} {es : List PyData} : fInD neg d (.list es) = (if (SeqAt.shaped d && SeqAt.shaped (.list es)) = true then some (.pur (.bool (if neg = true then !(es.any fun e => PyData.eqv e d) else es.any fun e => PyData.eqv e d))) else none) := by unfold fInD; rfl
@[simp] theorem e_D3 {k1 k2 k3 : Str} {v1 v2 v3 : Int} {a : EvB} : evD3 k1 k2 k3 v1 v2 v3 a env = (match a env with
  | some (.str z, env') => if z = k1 then some (.int v1, env') else if z = k2 then some (.int v2, env') else if z = k3 then some (.int v3, env') else none
  | _ => none) := rfl
end
end IX

/-! text IX28 -/
set_option maxHeartbeats 1000000
namespace IX
open PySem PySem.Spec PyProof.Rows L2
/-! ### match of a text with written texts -/
section
variable {X : Cx}
def MC (X : Cx) (cases : List MatchCase) (f : Str → TS) : Prop := ∀ (z : Str) (pins : List (Addr × Obj)) (s : Shared) (σ : L2.St) (H : Hp) (D : Ends) (v : Value) (first : Bool), L2.Inv X pins σ H s → RelV (.str z) v → f z D σ H →
  wpAny (model X.prog X.w) X.A (matchCases cases X.env v first) (L2.SP X pins D) X.xe s
theorem MC.weak {cases : List MatchCase} {f g : Str → TS} (h : MC X cases f) (w : ∀ z D σ H, g z D σ H → f z D σ H) : MC X cases g := fun z pins s σ H D v first I r q => h z pins s σ H D v first I r (w z D σ H q)
theorem mc_nil : MC X [] (fun _ => tNext) := fun z pins s σ H D v first I r h => wpAny_matchCases_nil ⟨σ, H, I, h⟩
theorem mc_any {body : List Stmt} {pos : Pos} {rest : List MatchCase} {t : TS} (hb : PSs X body t) : MC X (⟨.MatchAs none none pos, none, body⟩ :: rest) (fun _ => t) := fun z pins s σ H D v first I r h =>
  wpAny_matchCases_cons (wpAny_matchPattern_Capture (wpAny_assignInOrder_none (hb.run pins s σ H D I h)))
theorem mc_cons {k : Str} {j : Nat} {p pos : Pos} {body : List Stmt} {rest : List MatchCase} {t : TS} {f : Str → TS} (hb : PSs X body t) (hr : MC X rest f) :
    MC X (⟨.MatchValue (.Constant (.str k) j p) pos, none, body⟩ :: rest) (fun z => if z = k then t else f z) := fun z pins s σ H D v first I r h => by
  refine wpAny_matchCases_cons (wpAny_matchPattern_Value (Calls.Constant_str ?_))
  have I2 : L2.Inv X pins σ H { s with toks := s.toks + 1 } := I.tok _
  refine thn (op_eq pins { s with toks := s.toks + 1 } σ H (.str z) (.str k) v (.str k s.toks) (fun x H' => x = .bl (decide (z = k)) ∧ H' = H) I2 r ⟨_, rfl⟩ ⟨rfl, by simp, rfl⟩) fun d s3 ⟨x, H3, I3, r3, ex, eH⟩ => ?_
  subst ex eH
  cases r3
  refine wpAny_truthy_bool ?_
  by_cases e : z = k
  · rw [if_pos e] at h
    rw [decide_eq_true e]
    exact wpAny_assignInOrder_none (hb.run pins s3 σ H3 D I3 h)
  · rw [if_neg e] at h
    rw [decide_eq_false e]
    exact hr z pins s3 σ H3 D v false I3 r h
def tMatch (te : TE) (f : Str → TS) : TS := fun D σ H => te σ H fun x H1 => ∃ z, x = .str z ∧ f z D σ H1
theorem ps_match {e : Expr} {te : TE} {cases : List MatchCase} {f : Str → TS} {pos : Pos} (he : PE X e te) (hc : MC X cases f) : PS X (.Match e cases pos) (tMatch te f) := ⟨fun pins s σ H D I h =>
  wpAny_Match (thn (he.run pins s σ H _ I h) fun v s1 ⟨x, H1, I1, r1, z, ex, q⟩ => by
    subst ex
    exact hc z pins s1 σ H1 D v true I1 r1 q)⟩
end
section
variable [KC] {E : ExtK} {X : Cx} [KX X] {F H : Hp}
structure SMC (E : ExtK) (X : Cx) (cases : List MatchCase) (f : Str → EvS) : Prop where
  mc : ∀ fr, MC X cases fun z => TSv E fr (f z)
theorem smc_any {body : List Stmt} {pos : Pos} {rest : List MatchCase} {x : EvS} (hb : SSs E X body x) : SMC E X (⟨.MatchAs none none pos, none, body⟩ :: rest) (fun _ => x) := ⟨fun fr => mc_any (hb.ps fr)⟩
theorem smc_cons {k : Str} {j : Nat} {p pos : Pos} {body : List Stmt} {rest : List MatchCase} {x : EvS} {f : Str → EvS} (hb : SSs E X body x) (hr : SMC E X rest f) :
    SMC E X (⟨.MatchValue (.Constant (.str k) j p) pos, none, body⟩ :: rest) (fun z => if z = k then x else f z) := ⟨fun fr => (mc_cons (hb.ps fr) (hr.mc fr)).weak fun z D σ H q => by
  by_cases e : z = k
  · rw [if_pos e] at q; rw [if_pos e]; exact q
  · rw [if_neg e] at q; rw [if_neg e]; exact q⟩
def xMatch (ev : EvB) (f : Str → EvS) : EvS := fun env => (ev env).bind fun p => match p.1 with
  | .str z => f z p.2
  | _ => none
theorem ss_match {e : Expr} {q st : Bool} {ev : EvB} {cases : List MatchCase} {f : Str → EvS} {pos : Pos} (he : SB E X e q st ev) (hc : SMC E X cases f) : SS E X (.Match e cases pos) (xMatch ev f) := ⟨fun fr =>
  (ps_match (he.pe fr) (hc.mc fr)).weak fun D σ H ⟨F, ow, env, o, R, ee, k⟩ => by
    obtain ⟨⟨d, e1⟩, h1, h⟩ := bind2 ee
    dsimp only at h
    split at h
    · rename_i z
      exact ⟨F, ow, env, _, _, R, h1, fun v F' H' ow' R' g hq rv => ⟨z, rv.l.str, F', ow', e1, o, R', h, k.mono g.f⟩⟩
    · cases h⟩
end
section
variable {env : SEnv}
@[simp] theorem e_xMatch {ev : EvB} {f : Str → EvS} : xMatch ev f env = ((ev env).bind fun p => match p.1 with
  | .str z => f z p.2
  | _ => none) := rfl
end
end IX

/-! text IX29 -/
set_option maxHeartbeats 1000000
namespace IX
open PySem PySem.Spec PyProof.Rows L2
variable [KC]
/-! ### an object with forms by name: what it holds -/
def getE : List (PyData × PyData) → Str → Option PyData
  | [], _ => none
  | (.str k, d) :: r, z => if k = z then some d else getE r z
  | _ :: r, z => getE r z
def repE : List (PyData × PyData) → Str → PyData → List (PyData × PyData)
  | [], _, _ => []
  | (.str k, e) :: r, z, d => (.str k, if k = z then d else e) :: repE r z d
  | p :: r, z, d => p :: repE r z d
def putE (es : List (PyData × PyData)) (z : Str) (d : PyData) : List (PyData × PyData) := if (getE es z).isSome = true then repE es z d else es ++ [(.str z, d)]
theorem KVd.get {F : Hp} {z : Str} : ∀ {kvs : List (Key × V)} {es : List (PyData × PyData)}, KVd F kvs es → (∀ d, getE es z = some d → ∃ v, valV kvs (Sum.inr z : Key) = some v ∧ Rp F v d) ∧ (getE es z = none → valV kvs (Sum.inr z : Key) = none)
  | _, _, .nil => ⟨fun d h => (by cases h), fun _ => valV_nil⟩
  | _, _, .cons (z := k) r t => by
    obtain ⟨h1, h2⟩ := KVd.get (z := z) t
    unfold getE
    by_cases e : k = z
    · subst e
      rw [if_pos rfl]
      exact ⟨fun d h => ⟨_, valV_pos rfl, by cases h; exact r⟩, fun h => by cases h⟩
    · rw [if_neg e]
      have n : ¬ (Sum.inr k : Key) = Sum.inr z := fun h => e (Sum.inr.inj h)
      refine ⟨fun d h => ?_, fun h => ?_⟩
      · obtain ⟨v, e1, e2⟩ := h1 d h
        exact ⟨v, by rw [valV_neg n]; exact e1, e2⟩
      · rw [valV_neg n]; exact h2 h
theorem KVd.some {F : Hp} {z : Str} {kvs : List (Key × V)} {es : List (PyData × PyData)} (h : KVd F kvs es) : (valV kvs (Sum.inr z : Key)).isSome = (getE es z).isSome := by
  obtain ⟨h1, h2⟩ := h.get (z := z)
  cases e : getE es z with
  | none => rw [h2 e]; rfl
  | some d => obtain ⟨v, e1, _⟩ := h1 d e; rw [e1]; rfl
theorem KVd.rep {F : Hp} {z : Str} {v : V} {d : PyData} (rv : Rp F v d) : ∀ {kvs : List (Key × V)} {es : List (PyData × PyData)}, KVd F kvs es → KVd F (kvs.map fun kv => if kv.1 = (Sum.inr z : Key) then (kv.1, v) else kv) (repE es z d)
  | _, _, .nil => .nil
  | _, _, .cons (z := k) r t => by
    have ih := KVd.rep (z := z) rv t
    rw [List.map_cons]
    unfold repE
    by_cases e : k = z
    · subst e
      simp only [if_true]
      exact .cons rv ih
    · have n : ¬ (Sum.inr k : Key) = Sum.inr z := fun h => e (Sum.inr.inj h)
      simp only [if_neg e, if_neg n]
      exact .cons r ih
theorem KVd.app {F : Hp} {z : Str} {v : V} {d : PyData} (rv : Rp F v d) : ∀ {kvs : List (Key × V)} {es : List (PyData × PyData)}, KVd F kvs es → KVd F (kvs ++ [(Sum.inr z, v)]) (es ++ [(.str z, d)])
  | _, _, .nil => .cons rv .nil
  | _, _, .cons r t => .cons r (KVd.app rv t)
theorem KVd.put {F : Hp} {z : Str} {v : V} {d : PyData} {kvs : List (Key × V)} {es : List (PyData × PyData)} (h : KVd F kvs es) (rv : Rp F v d) : KVd F (putK kvs (Sum.inr z : Key) v) (putE es z d) := by
  unfold putK putE
  rw [valV_any, h.some (z := z)]
  split
  · exact h.rep rv
  · exact h.app rv
theorem KVd.len {F : Hp} : ∀ {kvs : List (Key × V)} {es : List (PyData × PyData)}, KVd F kvs es → kvs.length = es.length
  | _, _, .nil => rfl
  | _, _, .cons _ t => by rw [List.length_cons, List.length_cons, t.len]
def depAt (env : SEnv) (i : Nat) : Option (List (PyData × PyData)) := match env[i]? with
  | some (.ext _ t (.dict es)) => if t = 3 then some es else none
  | _ => none
theorem depAt_some {env : SEnv} {i : Nat} {es : List (PyData × PyData)} (h : depAt env i = some es) : ∃ b, env[i]? = some (.ext b 3 (.dict es)) := by
  unfold depAt at h
  split at h
  · split at h
    · rename_i z; subst z; cases h; exact ⟨_, by assumption⟩
    · cases h
  · cases h
theorem Rel.dep {fr : Fra} {F H : Hp} {ow : Ow} {env : SEnv} {σ : L2.St} {i : Nat} {es : List (PyData × PyData)} (R : Rel E0 fr F H ow env σ) (h : depAt env i = some es) : ∃ p, σ[i]? = some (some (.ref p)) ∧ DepAt F H (fun a => ow a = some i) p es := by
  obtain ⟨b, hi⟩ := depAt_some h
  rcases R.sl i _ hi with z | ⟨v, h1, ⟨p, vs, ds', rfl, s, h, o, eg, bx⟩ | ⟨a, vs, ds', rfl, hf, r, eg⟩ | ⟨p, es', rfl, eg, d, _⟩ | ⟨_, _, et, _⟩ | ⟨_, _, et, _⟩ | ⟨_, _, _, et, _⟩ | ⟨_, _, et, _⟩⟩
  · cases z
  · cases eg
  · cases eg
  · cases eg
    exact ⟨p, h1, d⟩
  · cases et
  · cases et
  · cases et
  · exact absurd et (by decide)
/-- what the walk asks of the class -/
structure DepT : Prop where
  cl : Cls KC.K depC
  na : NoAttr KC.K depC "forms"
section
variable {X : Cx} [hx : KX X] {e : Expr} {es : List Expr} {p pos p2 ap : Pos} {x : Str} {i j : Nat}
theorem DepT.xx (T : DepT) : Cls X.K depC ∧ NoAttr X.K depC "forms" := by rw [hx.eq]; exact ⟨T.cl, T.na⟩
theorem forms_at {fs : List (Str × V)} {d : Addr} (h : fs = [(("forms" : Str), V.ref d)]) : fs.lookup ("forms" : Str) = some (.ref d) := by subst h; rfl
/-! ### name not in self.forms, self.forms[name] -/
def evDepIn (neg : Bool) (i : Nat) (ev : EvB) : EvT := fun env => (ev env).bind fun q => match q.1 with
  | .str z => (depAt q.2 i).map fun es => (neg != (getE es z).isSome, q.2)
  | _ => none
theorem st_depNin {q st : Bool} {ev : EvB} (T : DepT) (hu : X.A.units + 64 < cLine) (h : PE X (.Name x p) (tVar i)) (he : SB E0 X e q st ev) (hb : attributeBase (.Name x p) "forms" X.env (eval (.Name x p) X.env) = eval (.Name x p) X.env := by rfl) :
    ST E0 X (.Compare e [.NotIn] [.Attribute (.Name x p) "forms" ap] pos) q (evDepIn true i ev) := ⟨fun fr =>
  (pt_cmp (pc_dnotin (by omega) (he.pe fr) (pe_fld h hb))).weak fun σ H Q ⟨F, ow, env, b, env', R, ee, k⟩ => by
    obtain ⟨⟨d, e1⟩, h1, ee⟩ := bind2 ee
    dsimp only at ee
    split at ee
    · rename_i z
      obtain ⟨es, h2, ee⟩ := Option.map_eq_some_iff.mp ee
      cases ee
      refine ⟨F, ow, env, _, _, R, h1, fun v F' H' ow' R' g hq rv => ?_⟩
      obtain ⟨a, hv, D⟩ := R'.dep h2
      obtain ⟨dx, dd, kvs, s1, s2, s3, g1, g2, g3, r⟩ := D.ex
      refine ⟨_, hv, a, depC, dx, _, _, rfl, g1, T.xx.1, T.xx.2, forms_at rfl, dd, _, rfl, .inl ⟨kvs, Sum.inr z, .inl g3, rv.l.str, rfl⟩, _, rfl, ?_⟩
      have := k F' H' ow' R' g hq
      rw [r.some (z := z)]
      simpa using this
    · cases ee⟩
def evDepGet (i : Nat) (ev : EvB) : EvB := fun env => (depAt env i).bind fun _ => (ev env).bind fun q => match q.1 with
  | .str z => (depAt q.2 i).bind fun es => (getE es z).map fun d => (d, q.2)
  | _ => none
theorem sp_depGet {st : Bool} {ev : EvB} (T : DepT) (hu : X.A.units + 64 < cLine) (h : PE X (.Name x p) (tVar i)) (he : SB E0 X e true st ev) (hs : NoSl e) (hb : attributeBase (.Name x p) "forms" X.env (eval (.Name x p) X.env) = eval (.Name x p) X.env := by rfl) :
    SP E0 X (.Subscript (.Attribute (.Name x p) "forms" ap) e pos) true (evDepGet i ev) := ⟨fun fr =>
  (pe_dget (by omega) (pe_fld h hb) (he.pe fr) hs).weak fun σ H Q ⟨F, ow, env, d, env', R, ee, k⟩ => by
    obtain ⟨es0, h0, ee⟩ := bind2 ee
    obtain ⟨⟨d1, e1⟩, h1, ee⟩ := bind2 ee
    dsimp only at ee
    split at ee
    · rename_i z
      obtain ⟨es, h2, ee⟩ := bind2 ee
      obtain ⟨d', h3, ee⟩ := Option.map_eq_some_iff.mp ee
      cases ee
      obtain ⟨a, hv, D⟩ := R.dep h0
      obtain ⟨dx, dd, kvs, s1, s2, s3, g1, g2, g3, r⟩ := D.ex
      refine ⟨_, hv, a, depC, dx, _, _, rfl, g1, T.xx.1, T.xx.2, forms_at rfl, F, ow, env, _, _, R, h1, fun v F' H' ow' R' g hq rv => ?_⟩
      obtain ⟨a', hv', D'⟩ := R'.dep h2
      rw [hv] at hv'
      cases hv'
      obtain ⟨dx', dd', kvs', s1', s2', s3', g1', g2', g3', r'⟩ := D'.ex
      have e2 := hq rfl _ _ g1
      rw [g1'] at e2
      have ed : dd' = dd := by
        have : HO.ins depC dx' [(("forms" : Str), V.ref dd')] = HO.ins depC dx [(("forms" : Str), V.ref dd)] := Option.some.inj e2
        injection this with _ _ h
        have h := List.cons.inj h
        have h := (Prod.mk.inj h.1).2
        injection h
      subst ed
      obtain ⟨w, hw, rw'⟩ := (r'.get (z := z)).1 _ h3
      exact ⟨dd', w, rfl, .inl ⟨kvs', Sum.inr z, .inl g3', rv.l.str, hw.symm⟩, k w F' H' ow' R' g hq rw'⟩
    · cases ee⟩
end
/-! ### methods -/
structure MeE (E : ExtK) (P : Program) (w : World) (mg : Str → Option Value) (base : Heap) (k : Nat) (m qual : Str) (params : Arguments) (body : List Stmt) (scope : Scope) (ps : List Str) (f : FSem) : Prop where
  ex : ∃ (fA : Addr) (fd : FuncData), FnOk P w KC.K mg base CX0 k fA fd ps (spI E f ps.length) ∧ Meth KC.K depC m fA ∧ FunD KC.K m qual params body scope [] [] fA fd
  bd : ∀ (kV doc pm : Value) (an : Option Addr) (cdv ct : Value) (us : List Value), us.length = ps.length → bindArgs (PySem.W.fnOf m qual params body scope .none kV doc pm an cdv ct) ⟨us, []⟩ = pure (ps.zip us)
section
variable {X : Cx} [hx : KX X] {e : Expr} {es : List Expr} {p pos apos : Pos} {k j i : Nat} {x m qual : Str} {params : Arguments} {body : List Stmt} {scope : Scope} {ps : List Str} {f : FSem}
def evMeth (f : FSem) (i : Nat) (t : EvR) : EvE := fun env => (depAt env i).bind fun _ => evCall f (arR i t) env
theorem se_depMeth {pl : Sem Bool} {q br : Bool} {ev : EvR} (T : DepT) (M : MeE E0 X.prog X.w X.mg X.base k m qual params body scope ps f) (hr : Room j X.A) (hk : k ≤ j) (h : PE X (.Name x p) (tVar i)) (ha : SAr E0 X (e :: es) q br ev) (hl : (e :: es).length + 1 = ps.length) (hev : ∀ env as env', ev env = some (as, env') → as.length = (e :: es).length)
    (hm : (m == ("forms" : Str)) = false := by decide)
    (he : starEach (e :: es) X.env = (false, eval e X.env) :: starEach es X.env := by rfl) (hpl : (backTo pos (starEach es X.env)).any (·.1) = false := by rfl)
    (ht : eval (.Call (.Attribute (.Name x p) m apos) (e :: es) [] pos) X.env = (do
      let ov ← eval (.Name x p) X.env
      standAt apos.atName
      let (f, first) ← holding [ov] (getMethod ov m pl)
      callWith pos f first (backTo pos (starEach (e :: es) X.env)) (backToKw pos (keywordEach [] X.env))) := by rfl) :
    SE E0 X (.Call (.Attribute (.Name x p) m apos) (e :: es) [] pos) false (evMeth f i ev) := ⟨fun fr => by
  obtain ⟨fA, fd, F1, hM, FD⟩ := M.ex
  have F1 : FnOk X.prog X.w X.K X.mg X.base CX0 k fA fd ps (spI E0 f ps.length) := by rw [hx.eq]; exact F1
  have hM : Meth X.K depC m fA := by rw [hx.eq]; exact hM
  have FD : FunD X.K m qual params body scope [] [] fA fd := by rw [hx.eq]; exact FD
  refine (pe_meth (pl := pl) (dvs := []) h T.xx.1 hM (F1.mono hk) hr (FD.bindsN M.bd) .nil pass0 (ha.pa fr) he hpl ht).weak fun σ H Q ⟨F, ow, env, r, env', R, ee, k⟩ => ?_
  obtain ⟨es0, h0, ee⟩ := bind2 ee
  obtain ⟨as, e1, ss, outs, h1, h2, h3, h4, h5⟩ := evCall_some ee
  obtain ⟨a, hv, D⟩ := R.dep h0
  obtain ⟨dx, dd, kvs, s1, s2, s3, g1, g2, g3, rr⟩ := D.ex
  unfold arR at h1
  split at h1
  · rename_i s hs
    split at h1
    · obtain ⟨⟨as', e2⟩, h6, h7⟩ := Option.map_eq_some_iff.mp h1
      cases h7
      refine ⟨_, hv, a, dx, _, rfl, g1, ?_, F, ow, env, _, _, R, h6, fun vs F' H' ow' R' g hq aok => ?_⟩
      · show List.lookup m [(("forms" : Str), V.ref dd)] = none
        rw [List.lookup_cons, hm]; rfl
      · show spI E0 f ps.length (.ref a :: (vs ++ [])) H' Q _
        rw [List.append_nil]
        exact call_core (br := true) (q := q) R' g hq (.ref hv aok) (by rw [List.length_cons, hev _ _ _ h6]; exact hl) h2 h3 h4 h5 (fun z => nomatch z) (fun v F2 H2 ow2 R2 g2 q2 r2 => k v F2 H2 ow2 R2 g2 (fun z => nomatch z) r2)
    · cases h1
  · cases h1⟩
end
end IX

/-! text IX30 -/
set_option maxHeartbeats 1000000
namespace IX
open PySem PySem.Spec PyProof.Rows L2
variable [KC]
/-! ### a new one -/
def spDep0 (o : PyData) : Sp := fun vs H Q _ => ∃ (p dx : Addr) (z : Str), vs = [.ref p, .str z] ∧ H p = some (.ins depC dx []) ∧ ∀ (d : Addr) (w : V), H d = none → (∀ F, Rp F w o) → Q .non (upd (upd H d (.dK [(Sum.inr z, w)])) p (.ins depC dx [(("forms" : Str), V.ref d)]))
def evDepNew (o : PyData) (ev : EvB) : EvE := fun env => (ev env).bind fun q => match q.1 with
  | .str z => some (.ext false 3 (.dict [(.str z, o)]), q.2)
  | _ => none
section
variable {X : Cx} [hx : KX X] {e : Expr} {es : List Expr} {p pos p2 ap : Pos} {x : Str} {i j k : Nat} {ps : List Str}
theorem se_depNew {o : PyData} {fI : Addr} {fd : FuncData} {q : Bool} {ev : EvB} (M : Mk KC.K depC fI) (F0 : FnOk X.prog X.w KC.K X.mg X.base CX0 k fI fd ps (spDep0 o)) (hr : Room (k + 1) X.A) (hg : Gl X "Depot") (hm : X.mg "Depot" = some (.ref depC)) (hb : Binds KC.K fd ps []) (he : SP E0 X e q ev)
    (hst : starEach [e] X.env = (false, eval e X.env) :: starEach [] X.env := by rfl) (hpl : (backTo pos (starEach [] X.env)).any (·.1) = false := by rfl) :
    SE E0 X (.Call (.Name "Depot" p) [e] [] pos) q (evDepNew o ev) := ⟨fun fr => by
  have M : Mk X.K depC fI := by rw [hx.eq]; exact M
  have F0 : FnOk X.prog X.w X.K X.mg X.base CX0 k fI fd ps (spDep0 o) := by rw [hx.eq]; exact F0
  have hb : Binds X.K fd ps [] := by rw [hx.eq]; exact hb
  refine (pe_make (dvs := []) M F0 hr hg hm hb .nil pass0 (pa_cons (he.pe fr) pa_nil hst) (by decide) hst hpl).weak fun σ H Q ⟨F, ow, env, r, env', R, ee, kk⟩ => ?_
  obtain ⟨⟨d0, e1⟩, h1, ee⟩ := bind2 ee
  dsimp only at ee
  split at ee
  · rename_i z
    cases ee
    refine ⟨F, ow, env, _, _, R, h1, fun v F' H' ow' R' g hq rv => fun y dx ny ndx nyx => ?_⟩
    cases rv
    refine ⟨y, dx, z, rfl, upd_same, fun d w nd rw' => ⟨rfl, ?_⟩⟩
    have ndy : d ≠ y := fun z => by subst z; rw [upd_same] at nd; cases nd
    rw [upd_ne ndy] at nd
    have ndd : d ≠ dx := fun z => by subst z; rw [upd_same] at nd; cases nd
    rw [upd_ne ndd] at nd
    let H3 : Hp := upd (upd (upd (upd H' dx (.own y)) y (.ins depC dx [])) d (.dK [(Sum.inr z, w)])) y (.ins depC dx [(("forms" : Str), V.ref d)])
    have hy : H3 y = some (.ins depC dx [(("forms" : Str), V.ref d)]) := upd_same
    have hd : H3 d = some (.dK [(Sum.inr z, w)]) := by show upd _ _ _ _ = _; rw [upd_ne ndy, upd_same]
    have hdx : H3 dx = some (.own y) := by show upd _ _ _ _ = _; rw [upd_ne nyx, upd_ne ndd.symm, upd_ne nyx, upd_same]
    have ex : Ex H' H3 := fun a u ha => by
      have n1 : a ≠ y := fun z => by subst z; rw [ny] at ha; cases ha
      have n2 : a ≠ dx := fun z => by subst z; rw [ndx] at ha; cases ha
      have n3 : a ≠ d := fun z => by subst z; rw [nd] at ha; cases ha
      show upd _ _ _ _ = _
      rw [upd_ne n1, upd_ne n3, upd_ne n1, upd_ne n2]; exact ha
    have al : Alloc F' H' F' H3 := ⟨Ex.refl _, ex, R'.fh.tr ex, fun _ _ => rfl⟩
    refine kk _ F' H3 ow' (R'.alloc al) (g.tr (al.grow R')) (fun z => (hq z).tr ex) ⟨rfl, (fun z => nomatch z), fun a => a = y ∨ a = dx ∨ a = d, fun a ha => ?_, .inr (.inr (.inl ⟨y, _, rfl, rfl, ⟨dx, d, _, .inl rfl, .inr (.inl rfl), .inr (.inr rfl), hy, hdx, hd, .cons (rw' F') .nil⟩, rfl⟩))⟩
    have nn : H' a = none := by rcases ha with rfl | rfl | rfl <;> assumption
    refine ⟨R'.free nn, R'.fh.non nn, R'.bh.non nn, ?_, fun h _ => g.dom a h nn⟩
    rcases ha with rfl | rfl | rfl
    · rw [hy]; exact fun z => nomatch z
    · rw [hdx]; exact fun z => nomatch z
    · rw [hd]; exact fun z => nomatch z
  · cases ee⟩
/-- the body of __init__ -/
theorem dep_init {P : Program} {w : World} {mg : Str → Option Value} {base : Heap} {f : Addr} {fd : FuncData} {o : PyData} {m qual : Str} {params : Arguments} {scope : Scope} {sp1 sp2 sp3 sp4 sp5 : Pos} {xn xs xo : Str} {N : List Str}
    (T : DepT) (F : FunD KC.K m qual params [.Assign [.Attribute (.Name xs sp1) "forms" sp2] (.Dict [some (.Name xn sp3)] [.Name xo sp4] sp5) pos] scope [] [] f fd) (S : FnScope N [xs, xn] scope)
    (ho : ∃ u, mg xo = some u ∧ Dat u o)
    (hh : ∀ (cdv : Value) (A : Around) (outer : List Env) (s : Shared) (H : Hp) (XE : XK), Room 0 (A.deeper (envOfC qual scope s.heap.objs.size f cdv)) → let X := cxOf CX0 P w KC.K mg base N qual scope f cdv A outer s H XE
      PE X (.Name xs sp1) (tVar 0) ∧ PE X (.Name xn sp3) (tVar 1) ∧ Gl X xo ∧ (xo == ("__debug__" : Str)) = false ∧ swapsWith (.Dict [some (.Name xn sp3)] [.Name xo sp4] sp5) (some (.Attribute (.Name xs sp1) "forms" sp2)) pos.line X.env = pure false) :
    FnOk P w KC.K mg base CX0 1 f fd [xs, xn] (spDep0 o) := by
  refine F.ok S (fun vs H Q E h => ?_) (fun cdv A outer s H vs Q E hr h => ?_)
  · obtain ⟨p, dx, z, rfl, _⟩ := h
    rfl
  · obtain ⟨p, dx, z, rfl, hp, k⟩ := h
    obtain ⟨u, hu, w0, r0, h0⟩ := ho
    obtain ⟨a1, a2, a3, a4, a5⟩ := hh cdv A outer s H E hr
    refine ⟨_, pss_one (ps_fld a1 (pe_disp (pps_cons a2 (pe_glob a3 hu r0 a4) pps_nil) rfl rfl (by simp) (by simp)) a5), ?_⟩
    intro d nd
    have ndp : p ≠ d := fun z => by subst z; rw [hp] at nd; cases nd
    refine ⟨.str z, rfl, upd_same, [(Sum.inr z, w0)], rfl, by simp, ?_⟩
    refine ⟨.ref p, rfl, p, depC, dx, [], rfl, ?_, T.cl, T.na, by simp, ?_⟩
    · rw [upd_upd, upd_ne ndp]; exact hp
    · have := k d w0 nd h0
      rw [upd_upd]
      exact this
end
/-! ### later = dict(self.forms); later[name] = e; self.forms = later -/
theorem Rel.adopt {fr : Fra} {F H : Hp} {ow : Ow} {env : SEnv} {σ : L2.St} {i : Nat} {a : Addr} (R : Rel E0 fr F H ow env σ) (h1 : ow a = none) (h2 : F a = none) (h3 : fr.B a = none) (h4 : H a ≠ none) :
    Rel E0 fr F H (fun b => if b = a then some i else ow b) env σ where
  fh := R.fh
  f0 := R.f0
  bh := R.bh
  fb := R.fb
  dom := R.dom
  sep := fun b j e => by
    have e : (if b = a then some i else ow b) = some j := e
    by_cases z : b = a
    · subst z; exact ⟨h2, h3, h4⟩
    · rw [if_neg z] at e; exact R.sep b j e
  len := R.len
  sl := fun j s e => by
    rcases R.sl j s e with z | ⟨v, e1, q⟩
    · exact .inl z
    · refine .inr ⟨v, e1, q.mono E0 (Ex.refl _) (fun b (hb : ow b = some j) => ?_) fun _ _ => rfl⟩
      show (if b = a then some i else ow b) = some j
      rw [if_neg (fun z => by subst z; rw [h1] at hb; cases hb)]; exact hb
  pr := R.pr
def xDepPut (i j n : Nat) (ev : EvB) : EvS := fun env => (depAt env i).bind fun es => match env[j]? with
  | some s => if s.par = false then (ev (env.set j .und)).bind fun q => match q.2[i]?, q.2[n]? with
    | some (.ext b t (.dict _)), some (.pur (.str z)) => if es.length < 16777216 ∧ t = 3 then some (.nxt (q.2.set i (.ext b t (.dict (putE es z q.1))))) else none
    | _, _ => none
    else none
  | none => none
section
variable {X : Cx} [hx : KX X] {e : Expr} {p1 p2 p3 a1 a3 q0 q1 q2 r1 u1 c1 d0 s1 s2 s3 : Pos} {xs xl xn : Str} {i j n : Nat}
theorem sss_depPut {ev : EvB} {q : Bool} (T : DepT) (hu : X.A.units + 64 < cLine) (hN : X.N.Nodup) (hj : X.N[j]? = some xl) (hlj : Loc X.env.scope xl) (hij : i ≠ j) (h1 : PE X (.Name xs p1) (tVar i)) (h3 : PE X (.Name xs p3) (tVar i)) (hl1 : PE X (.Name xl q1) (tVar j)) (hl2 : PE X (.Name xl q2) (tVar j)) (hn : PE X (.Name xn r1) (tVar n))
    (hg : Gl X "dict") (hm : X.mg "dict" = none) (he : SP E0 X e q ev) (hqt : q = true := by rfl)
    (hb1 : attributeBase (.Name xs p1) "forms" X.env (eval (.Name xs p1) X.env) = eval (.Name xs p1) X.env := by rfl)
    (hs1 : swapsWith (.Call (.Name "dict" d0) [.Attribute (.Name xs p1) "forms" a1] [] c1) (some (.Name xl q0)) s1.line X.env = pure false := by rfl)
    (hs2 : swapsWith e (some (.Subscript (.Name xl q1) (.Name xn r1) u1)) s2.line X.env = pure false := by rfl)
    (hs3 : swapsWith (.Name xl q2) (some (.Attribute (.Name xs p3) "forms" a3)) s3.line X.env = pure false := by rfl)
    (hf : X.fn xl = true ∨ X.env.scope.names.lookup xl = some .local := by first | exact .inl rfl | exact .inr rfl)
    (hst : starEach [.Attribute (.Name xs p1) "forms" a1] X.env = (false, eval (.Attribute (.Name xs p1) "forms" a1) X.env) :: starEach [] X.env := by rfl) (hpl : (backTo c1 (starEach [] X.env)).any (·.1) = false := by rfl) :
    SSs E0 X [.Assign [.Name xl q0] (.Call (.Name "dict" d0) [.Attribute (.Name xs p1) "forms" a1] [] c1) s1, .Assign [.Subscript (.Name xl q1) (.Name xn r1) u1] e s2, .Assign [.Attribute (.Name xs p3) "forms" a3] (.Name xl q2) s3] (xDepPut i j n ev) := by
  subst hqt
  exact ⟨fun fr =>
  (pss_cons (ps_set hN hj hlj (pe_callTy call_dictD hg hm (by decide +kernel) (pa_cons (pe_fld h1 hb1) pa_nil hst) (by decide) (by decide) hst hpl) hs1 hf)
    (pss_cons (ps_dput (by omega) hl1 hn (he.pe fr) hs2) (pss_one (ps_fld h3 hl2 hs3)))).weak fun D σ H ⟨F, ow, env, o, R, ee, k⟩ => by
    obtain ⟨es, h0, ee⟩ := bind2 ee
    obtain ⟨p, hv, DA⟩ := R.dep h0
    obtain ⟨dx, d, kvs, o1, o2, o3, g1, g2, g3, r⟩ := DA.ex
    split at ee
    · rename_i s hsj
      split at ee
      · rename_i hpj
        obtain ⟨⟨d1, e2⟩, h4, ee⟩ := bind2 ee
        dsimp only at ee
        split at ee
        · rename_i b t es' z hi2 hn2
          split at ee
          · rename_i hlt
            obtain ⟨hlen, ht⟩ := hlt
            cases ee
            refine ⟨_, hv, p, depC, dx, _, _, rfl, g1, T.xx.1, T.xx.2, forms_at rfl, d, kvs, rfl, .inl g3, fun dn hdn => ?_⟩
            have al : Alloc F H F (upd H dn (.dK kvs)) := Alloc.tmp R.fh hdn
            obtain ⟨ow1, R2, keep⟩ := (R.alloc al).store' (r := .und) (v := .ref dn) (S := fun _ => False) hsj hpj rfl (fun _ z => z.elim) trivial
            have w1 : ow1 dn = none := keep dn (R.free hdn) id
            refine ⟨F, ow1, _, _, _, R2, h4, fun v F' H' ow' R' g hq rv => ?_⟩
            have gj : ∀ {σ : L2.St}, True := trivial
            have lj : j < σ.length := by rw [← R.len]; exact (List.getElem?_eq_some_iff.mp hsj).1
            have sj : (σ.set j (some (.ref dn)))[j]? = some (some (.ref dn)) := List.getElem?_set_self lj
            have hdn' : H' dn = some (.dK kvs) := hq rfl _ _ upd_same
            obtain ⟨vn, hvn, rn⟩ : ∃ v, (σ.set j (some (.ref dn)))[n]? = some (some v) ∧ v = .str z := by
              rcases R'.sl n _ hn2 with z | ⟨v, h5, h6⟩
              · cases z
              · cases h6; exact ⟨_, h5, rfl⟩
            subst rn
            have lk : kvs.length < sizeLine := by rw [r.len, sizeLine_eq]; exact hlen
            refine ⟨_, sj, _, hvn, dn, _, rfl, .inl ⟨kvs, Sum.inr z, hdn', rfl, lk, rfl⟩, ?_⟩
            have hd2 : depAt e2 i = some es' := by unfold depAt; rw [hi2]; exact if_pos ht
            obtain ⟨p', hv', DA'⟩ := R'.dep hd2
            obtain ⟨dx', d', kvs', o1', o2', o3', g1', g2', g3', r'⟩ := DA'.ex
            have np : p' ≠ dn := fun z => by subst z; rw [hdn'] at g1'; cases g1'
            have nx : dx' ≠ dn := fun z => by subst z; rw [hdn'] at g2'; cases g2'
            have npx : dx' ≠ p' := fun z => by subst z; rw [g1'] at g2'; cases g2'
            refine ⟨_, sj, _, hv', p', depC, dx', [(("forms" : Str), V.ref d')], rfl, ?_, T.xx.1, T.xx.2, (by show 1 < 1000; decide), ?_⟩
            · rw [upd_ne np]; exact g1'
            · have gz := g.fz dn (by rw [upd_same]; exact fun z => nomatch z) w1
              have fdn : F' dn = none := gz.1.trans (R.fh.non hdn)
              have Ra := R'.adopt (i := i) (a := dn) gz.2 fdn (R.bh.non hdn) (by rw [hdn']; exact fun z => nomatch z)
              have ep : putF "forms" (.ref dn) [(("forms" : Str), V.ref d')] = [(("forms" : Str), V.ref dn)] := by show (if ("forms" : Str) = "forms" then _ else _) = _; rw [if_pos rfl]
              rw [ep]
              have op : ow' p' = some i := o1'
              have ox : ow' dx' = some i := o2'
              refine k F' _ _ _ (Ra.chg (H' := upd (upd H' dn (.dK (putK kvs (Sum.inr z) v))) p' (.ins depC dx' [(("forms" : Str), V.ref dn)])) hi2 hv' (fun a na => ?_) (fun a ha => ?_) (.inr (.inr (.inl ⟨p', _, rfl, rfl, ⟨dx', dn, putK kvs (Sum.inr z) v, ?_, ?_, if_pos rfl, upd_same, ?_, ?_, ((r.mono g.f).put rv)⟩, ht⟩))) rfl) g.f
              · have na : ¬ (if a = dn then some i else ow' a) = some i := na
                have n1 : a ≠ p' := fun z => na (by subst z; rw [if_neg np]; exact op)
                have n2 : a ≠ dn := fun z => na (by rw [if_pos z])
                rw [upd_ne n1, upd_ne n2]
              · by_cases z1 : a = p'
                · subst z1; rw [upd_same]; exact fun z => nomatch z
                · rw [upd_ne z1]
                  by_cases z2 : a = dn
                  · subst z2; rw [upd_same]; exact fun z => nomatch z
                  · rw [upd_ne z2]
                    have ha : (if a = dn then some i else ow' a) = some i := ha
                    rw [if_neg z2] at ha
                    exact (R'.sep a i ha).2.2
              · show (if p' = dn then some i else ow' p') = some i
                rw [if_neg np]; exact op
              · show (if dx' = dn then some i else ow' dx') = some i
                rw [if_neg nx]; exact ox
              · rw [upd_ne npx, upd_ne nx]; exact g2'
              · rw [upd_ne np.symm, upd_same]
          · cases ee
        · cases ee
      · cases ee
    · cases ee⟩
end
section
variable {env : SEnv} {i j n : Nat}
theorem e_depAt {b : Bool} {es : List (PyData × PyData)} (h : env[i]? = some (.ext b 3 (.dict es))) : depAt env i = some es := by unfold depAt; rw [h]; exact if_pos rfl
theorem depAt_def : depAt env i = (match env[i]? with
  | some (.ext _ t (.dict es)) => if t = 3 then some es else none
  | _ => none) := rfl
@[simp] theorem e_depIn {neg : Bool} {a : EvB} : evDepIn neg i a env = ((a env).bind fun q => match q.1 with
  | .str z => (depAt q.2 i).map fun es => (neg != (getE es z).isSome, q.2)
  | _ => none) := rfl
@[simp] theorem e_depGet {a : EvB} : evDepGet i a env = ((depAt env i).bind fun _ => (a env).bind fun q => match q.1 with
  | .str z => (depAt q.2 i).bind fun es => (getE es z).map fun d => (d, q.2)
  | _ => none) := rfl
@[simp] theorem e_depMeth {f : FSem} {t : EvR} : evMeth f i t env = ((depAt env i).bind fun _ => evCall f (arR i t) env) := rfl
@[simp] theorem e_depNew {o : PyData} {a : EvB} : evDepNew o a env = ((a env).bind fun q => match q.1 with
  | .str z => some (.ext false 3 (.dict [(.str z, o)]), q.2)
  | _ => none) := rfl
end
end IX
namespace IX
open PySem PySem.Spec PyProof.Rows L2
variable [KC]
/-- the class, and how one is made -/
structure DepX (P : Program) (w : World) (mg : Str → Option Value) (base : Heap) (k : Nat) (o : PyData) : Prop where
  T : DepT
  ex : ∃ (fI : Addr) (fd : FuncData) (ps : List Str), Mk KC.K depC fI ∧ FnOk P w KC.K mg base CX0 k fI fd ps (spDep0 o) ∧ Binds KC.K fd ps []
  at_ : mg "Depot" = some (.ref depC)
theorem se_depNewX {X : Cx} [hx : KX X] {e : Expr} {p pos : Pos} {k j : Nat} {o : PyData} {q : Bool} {ev : EvB} (D : DepX X.prog X.w X.mg X.base k o) (hr : Room j X.A) (hj : k + 1 ≤ j) (hg : Gl X "Depot") (he : SP E0 X e q ev)
    (hst : starEach [e] X.env = (false, eval e X.env) :: starEach [] X.env := by rfl) (hpl : (backTo pos (starEach [] X.env)).any (·.1) = false := by rfl) :
    SE E0 X (.Call (.Name "Depot" p) [e] [] pos) q (evDepNew o ev) := by
  obtain ⟨fI, fd, ps, M, F, B⟩ := D.ex
  exact se_depNew M F (hr.mono hj) hg D.at_ B he hst hpl
end IX

/-! text IX31 -/
set_option maxHeartbeats 1000000
/-! Calls that no repr stands around: what a def promises there, the rules for calls, the law's end. -/
namespace IX
open PySem PySem.Spec PyProof.Rows L2
/-- no repr is under way -/
abbrev NoRep (A : Around) : Prop := A.guards = some []
structure FnG (P : Program) (w : World) (K : PySem.W.Frag) (mg : Str → Option Value) (base : Heap) (CX : CXT) (k : Nat) (f : Addr) (fd : FuncData) (ps : List Str) (sp : Sp) : Prop where
  cnt : ∀ vs H Q E, sp vs H Q E → vs.length = ps.length
  go : ∀ (A : Around) (out : List Env) (s : Shared) (H : Hp) (args : Args) (us : List Value) (vs : List V) (Q : VK) (E : XK), NoRep A → Room k A → Env0 P w K mg base A out s H → BindsTo s fd args (ps.zip us) → Vals vs us →
    sp vs H Q E → codeAny (model P w) A (.call (.ref f) args) (CR CX out P w H s Q E) s
section
variable {P : Program} {w : World} {K : PySem.W.Frag} {mg : Str → Option Value} {base : Heap} {CX : CXT} {j k : Nat} {f : Addr} {fd : FuncData} {ps : List Str} {sp sp' : Sp}
theorem FnG.of (F : FnOk P w K mg base CX k f fd ps sp) : FnG P w K mg base CX k f fd ps sp := ⟨F.len, fun A out s H args us vs Q E _ r => F.run A out s H args us vs Q E r⟩
theorem FnG.mono (F : FnG P w K mg base CX j f fd ps sp) (h : j ≤ k) : FnG P w K mg base CX k f fd ps sp := ⟨F.cnt, fun A out s H args us vs Q E g r => F.go A out s H args us vs Q E g (r.mono h)⟩
theorem FnG.imp (F : FnG P w K mg base CX k f fd ps sp) (h : ∀ vs H Q E, sp' vs H Q E → sp vs H Q E) : FnG P w K mg base CX k f fd ps sp' :=
  ⟨fun vs H Q E z => F.cnt vs H Q E (h vs H Q E z), fun A out s H args us vs Q E g r e b v z => F.go A out s H args us vs Q E g r e b v (h vs H Q E z)⟩
/-- the start of a frame keeps the guards -/
theorem norep_deeper {A : Around} {env : Env} (h : NoRep A) : NoRep (A.deeper env) := h
end
section
variable {P : Program} {w : World} {K : PySem.W.Frag} {mg : Str → Option Value} {base : Heap} {x qual : Str} {params : Arguments} {body : List Stmt} {scope : Scope} {dvs : List V} {kws : List (Str × V)} {f : Addr} {fd : FuncData}
/-- how a body ends is how its call ends -/
theorem body_end {CX : CXT} {N : List Str} {cdv : Value} {A : Around} {out : List Env} {s s' : Shared} {H : Hp} {Q : VK} {E : XK} {fl : Flow} (h : L2.SP (cxOf CX P w K mg base N qual scope f cdv A out s H E) [] { nx := fun _ H' => Q .non H', rt := Q } fl s') :
    match fl with
    | .ret u => CE out P w H s Q u s'
    | .next => CE out P w H s Q .none s'
    | _ => False := by
  cases fl with
  | ret u => obtain ⟨v, σ1, H1, J, rv, q⟩ := h; exact ⟨v, H1, J.os, J.bare, J.base, J.hok, rv, q⟩
  | next => obtain ⟨σ1, H1, J, q⟩ := h; exact ⟨.non, H1, J.os, J.bare, J.base, J.hok, rfl, q⟩
  | brk => obtain ⟨_, _, _, q⟩ := h; exact q
  | cont => obtain ⟨_, _, _, q⟩ := h; exact q
theorem fnG_of {CX : CXT} {N ps : List Str} {k : Nat} {sp : Sp} (F : FunD K x qual params body scope dvs kws f fd) (S : FnScope N ps scope) (cnt : ∀ vs H Q E, sp vs H Q E → vs.length = ps.length)
    (hb : ∀ (cdv : Value) (A : Around) (out : List Env) (s : Shared) (H : Hp) (vs : List V) (Q : VK) (E : XK), Room k (A.deeper (envOfC qual scope s.heap.objs.size f cdv)) → NoRep A → sp vs H Q E →
      ∃ t, PSs (cxOf CX P w K mg base N qual scope f cdv A out s H E) body t ∧ t { nx := fun _ H' => Q .non H', rt := Q } (start N vs) H) : FnG P w K mg base CX (k + 1) f fd ps sp := by
  obtain ⟨oc, od, dV, kV, doc, pm, an, cdv, ct, osl, rfl, at_, code, _, _⟩ := F.ex
  refine ⟨cnt, fun A out s H args us vs Q E nr room e bt rv want => ?_⟩
  have stay : ∀ {b o}, base.get? b = some o → s.heap.get? b = some o := fun z => (e.bs _ _ z).1
  have inK : K.In s.heap := e.mod.kin.keeps fun _ _ z => stay z
  refine codeAny_call_function room.depth (inK _ _ at_) rfl S.co S.gen rfl (PySem.W.codeRec_of inK code) (bt _ _ _ _ ?_)
  refine wpAny_newFunctionEnv_cells S.kind (fun p hp => ?_) fun env henv s1 made => ?_
  · rcases S.par p.1 (List.of_mem_zip (a := p.1) (b := p.2) hp).1 with z | z
    · exact .inl z
    · exact .inr ⟨z, PySem.W.cellsFrom_some _ _ _ (.inl z)⟩
  · cases henv
    refine ⟨(e.mod.nolimit.keeps fun _ _ z => stay z).keeps made.toInCall.keep, codeAny_func ?_⟩
    obtain ⟨t, run, start_⟩ := hb cdv A out s H vs Q E (room.deeper _) nr want
    refine wpAny_mono (run.run [] s1 _ H _ (inv_start S room.hd e (cnt _ _ _ _ want) rv made) start_) (fun fl s2 h2 => ?_) fun _ _ z => z
    have z := body_end h2
    cases fl <;> first | exact z | exact z.elim
end
section
variable {X : Cx} {CX : CXT} {k n : Nat} {f : Addr} {fd : FuncData} {ps ks : List Str} {sp : Sp} {E : XK} {x m : Str} {p pos apos : Pos} {e o : Expr} {es : List Expr} {kws : List Keyword} {t tk : TA} {ta : TE} {pins : List (Addr × Obj)} {σ : L2.St} {H : Hp} {s : Shared} {Q : VK} {us us' : List Value} {vs : List V} {kw : List (Str × Value)}
/-- the call itself -/
theorem run_G (F : FnG X.prog X.w X.K X.mg X.base CX k f fd ps sp) (nr : NoRep X.A) (room : Room k X.A) (esc : Passes CX X E) (inv : Inv X pins σ H s) (bt : BindsTo s fd ⟨us, kw⟩ (ps.zip us')) (rv : Vals vs us') (want : sp vs H Q E) :
    wpAny (model X.prog X.w) X.A (PySem.call (.ref f) us kw) (EP X pins σ Q) X.xe s := by
  refine wpAny_call (codeAny_mono (F.go X.A X.stack s H ⟨us, kw⟩ us' vs Q E nr room inv.env0 bt rv want) fun r s2 h2 => ?_)
  rcases r with e2 | (v2 | _ | _ | _)
  · exact esc pins σ H s e2 s2 inv h2
  all_goals first | exact inv.after h2 | exact h2.elim
theorem binds_all (hb : Binds X.K fd ps []) (inv : Inv X pins σ H s) (l : us.length = ps.length) : BindsTo s fd ⟨us, []⟩ (ps.zip us) := by
  have z := hb s us inv.kIn (by rw [List.append_nil]; exact l)
  rwa [List.append_nil] at z
theorem peG (F : FnG X.prog X.w X.K X.mg X.base CX k f fd ps sp) (nr : NoRep X.A) (room : Room k X.A) (gl : Gl X x) (at_ : X.mg x = some (.ref f)) (kp : PySem.W.keepIn X.K (.ref f) = true) (hb : Binds X.K fd ps []) (esc : Passes CX X E) (ha : PA X (e :: es) t)
    (hdb : (x == ("__debug__" : Str)) = false) (he : starEach (e :: es) X.env = (false, eval e X.env) :: starEach es X.env) (hpl : (backTo pos (starEach es X.env)).any (·.1) = false) :
    PE X (.Call (.Name x p) (e :: es) [] pos) (fun σ H Q => t σ H fun vs H1 => sp vs H1 Q E) :=
  ⟨fun pins s σ H Q inv want => wpAny_Call_Name_kw (ld_glob inv gl at_ (PySem.W.callWith_K (h₀ := X.base) inv.ok.mod.kin kp (thn (ha.run pos pins s σ H _ inv want) fun us s1 ⟨vs, H1, i1, rv, q⟩ =>
    ⟨i1.kIn, run_G F nr room esc i1 (binds_all hb i1 (rv.length.symm.trans (F.cnt _ _ _ _ q))) rv q⟩) he hpl) hdb)⟩
theorem peG0 (F : FnG X.prog X.w X.K X.mg X.base CX k f fd ps sp) (nr : NoRep X.A) (room : Room k X.A) (gl : Gl X x) (at_ : X.mg x = some (.ref f)) (kp : PySem.W.keepIn X.K (.ref f) = true) (hb : Binds X.K fd ps []) (esc : Passes CX X E)
    (hdb : (x == ("__debug__" : Str)) = false) : PE X (.Call (.Name x p) [] [] pos) (fun σ H Q => sp [] H Q E) :=
  ⟨fun pins s σ H Q inv want => wpAny_Call_Name_kw (ld_glob inv gl at_ (PySem.W.callWith_K0 inv.kIn kp (run_G (us := []) (vs := []) F nr room esc inv (binds_all hb inv (by have := F.cnt _ _ _ _ want; simpa using this)) .nil want)) hdb)⟩
theorem peGN {g : List Value → List Value → List Value} {gV : List V → List V → List V} (F : FnG X.prog X.w X.K X.mg X.base CX k f fd ps sp) (nr : NoRep X.A) (room : Room k X.A) (gl : Gl X x) (at_ : X.mg x = some (.ref f)) (kp : PySem.W.keepIn X.K (.ref f) = true) (hb : KBn X.K fd ps n ks g gV) (esc : Passes CX X E)
    (ha : PA X (e :: es) t) (hkw : PK X kws tk) (hall : (backToKw pos (keywordEach kws X.env)).all (·.1.isSome) = true) (hks : (backToKw pos (keywordEach kws X.env)).filterMap (·.1) = ks)
    (hdb : (x == ("__debug__" : Str)) = false) (he : starEach (e :: es) X.env = (false, eval e X.env) :: starEach es X.env) (hpl : ((backTo pos (starEach (e :: es) X.env)).any (·.1) || (backToKw pos (keywordEach kws X.env)).any (·.1.isNone)) = false) :
    PE X (.Call (.Name x p) (e :: es) kws pos) (fun σ H Q => t σ H fun vs H1 => tk σ H1 fun zs H2 => vs.length = n ∧ zs.length = ks.length ∧ sp (gV vs zs) H2 Q E) := by
  refine ⟨fun pins s σ H Q inv want => wpAny_Call_Name_kw (ld_glob inv gl at_ ?_ hdb)⟩
  refine PySem.W.callWith_KW (h₀ := X.base) inv.ok.mod.kin kp hall (thn (ha.run pos pins s σ H _ inv want) fun us s1 ⟨vs, H1, i1, rv, q⟩ => ?_) hpl he
  refine thn (hkw.run pos pins s1 σ H1 _ i1 q) fun ws s2 ⟨zs, H2, i2, rz, l1, l2, q2⟩ => ⟨i2.kIn, ?_⟩
  subst hks
  exact run_G F nr room esc i2 (hb.to s2 us ws i2.kIn (rv.length.symm.trans l1) (rz.length.symm.trans l2)) (hb.rel rv rz) q2
theorem peGN0 {g : List Value → List Value → List Value} {gV : List V → List V → List V} (F : FnG X.prog X.w X.K X.mg X.base CX k f fd ps sp) (nr : NoRep X.A) (room : Room k X.A) (gl : Gl X x) (at_ : X.mg x = some (.ref f)) (kp : PySem.W.keepIn X.K (.ref f) = true) (hb : KBn X.K fd ps 0 ks g gV) (esc : Passes CX X E)
    (hkw : PK X kws tk) (hall : (backToKw pos (keywordEach kws X.env)).all (·.1.isSome) = true) (hks : (backToKw pos (keywordEach kws X.env)).filterMap (·.1) = ks)
    (hdb : (x == ("__debug__" : Str)) = false) (hpl : ((backTo pos (starEach [] X.env)).any (·.1) || (backToKw pos (keywordEach kws X.env)).any (·.1.isNone)) = false) :
    PE X (.Call (.Name x p) [] kws pos) (fun σ H Q => tk σ H fun zs H2 => zs.length = ks.length ∧ sp (gV [] zs) H2 Q E) := by
  refine ⟨fun pins s σ H Q inv want => wpAny_Call_Name_kw (ld_glob inv gl at_ ?_ hdb)⟩
  refine PySem.W.callWith_KW0 (h₀ := X.base) inv.ok.mod.kin kp hall (thn (hkw.run pos pins s σ H _ inv want) fun ws s2 ⟨zs, H2, i2, rz, l2, q2⟩ => ⟨i2.kIn, ?_⟩) hpl
  subst hks
  exact run_G (us := []) F nr room esc i2 (hb.to s2 [] ws i2.kIn rfl (rz.length.symm.trans l2)) (hb.rel .nil rz) q2
end
end IX

/-! text IX32 -/
set_option maxHeartbeats 1000000
/-! Defs and calls that no repr stands around; repr of data. -/
namespace IX
open PySem PySem.Spec PyProof.Rows L2
variable [KC]
section
variable {P : Program} {w : World} {K : PySem.W.Frag} {mg : Str → Option Value} {base : Heap} {E : ExtK}
theorem def_okG {x qual : Str} {params : Arguments} {body : List Stmt} {scope : Scope} {dvs : List V} {kws : List (Str × V)} {f : Addr} {fd : FuncData} {N ps : List Str} {k n : Nat} {xb : EvS} (F : FunD K x qual params body scope dvs kws f fd) (S : FnScope N ps scope) (hn : ps.length = n)
    (hb : ∀ (cdv : Value) (A : Around) (outer : List Env) (s : Shared) (H : Hp) (XE : XK), Room k (A.deeper (envOfC qual scope s.heap.objs.size f cdv)) → NoRep A → SSs E (cxOf CX0 P w K mg base N qual scope f cdv A outer s H XE).nox body xb) :
    FnG P w K mg base CX0 (k + 1) f fd ps (spI E (runDef N.length xb) n) := by
  refine fnG_of F S (spI_len hn) fun cdv A outer s H vs Q XE hr nr h => ?_
  obtain ⟨hl, F0, B, ow, args, r, outs, fh, bh, sep, la, ha, hf, k⟩ := h
  let fr : Fra := ⟨F0, H, B, vs⟩
  refine ⟨TSv E fr xb, ((hb cdv A outer s H XE hr nr).ps fr).nox, ?_⟩
  have nl : n ≤ N.length := by have := congrArg List.length S.pre; rw [List.length_take] at this; omega
  have R : Rel E fr F0 H ow (args ++ List.replicate (N.length - args.length) .und) (L2.start N vs) := by
    refine ⟨fh, Ex.refl _, bh, fun _ _ _ => rfl, fun _ h => h, sep, ?_, fun i s e => ?_, fun i s e p => ?_⟩
    · unfold L2.start
      rw [List.length_append, List.length_append, List.length_replicate, List.length_replicate, List.length_map]
      omega
    · by_cases hi : i < args.length
      · rw [List.getElem?_append_left hi] at e
        obtain ⟨_, v, hv, hs⟩ := ha i s e
        refine .inr ⟨v, ?_, hs⟩
        unfold L2.start
        rw [List.getElem?_append_left (by rw [List.length_map]; omega), List.getElem?_map, hv]
        rfl
      · rw [List.getElem?_append_right (by omega), List.getElem?_replicate] at e
        split at e
        · cases e; exact .inl rfl
        · cases e
    · by_cases hi : i < args.length
      · rw [List.getElem?_append_left hi] at e
        obtain ⟨_, v, hv, hs⟩ := ha i s e
        refine ⟨v, hv, ?_⟩
        unfold L2.start
        rw [List.getElem?_append_left (by rw [List.length_map]; omega), List.getElem?_map, hv]
        rfl
      · rw [List.getElem?_append_right (by omega), List.getElem?_replicate] at e
        split at e
        · cases e; cases p
        · cases e
  have fin : ∀ {F' H' ow' σ' e' v r}, Rel E fr F' H' ow' e' σ' → Ex F0 F' → outsOf args e' = some outs → r.par = false → r ≠ .und → (∃ S : Addr → Prop, (∀ a, S a → ow' a = none ∧ F' a = none ∧ B a = none ∧ H' a ≠ none) ∧ Sl E F' H' S v r) → Ret E F0 H B vs outs F' H' ow' v r := fun {F' H' ow' σ' e' v r} R' f ho np nu rs =>
    ⟨R'.fh, f, R'.bh, R'.fb, R'.dom, R'.sep, fun i s e p => by
      have ee := outsOf_get ho e p
      obtain ⟨v, h1, h2⟩ := R'.pr i s ee p
      rcases R'.sl i s ee with z | ⟨v', h3, h4⟩
      · subst z; cases p
      · rw [h2] at h3; cases h3; exact ⟨v, h1, h4⟩, np, nu, rs⟩
  unfold runDef at hf
  split at hf
  · rename_i r' e' hx
    obtain ⟨os, h1, h2⟩ := Option.map_eq_some_iff.mp hf
    cases h2
    exact ⟨F0, ow, _, _, R, hx, fun v F' H' ow' σ' H0 ow0 R' f rs => k v F' H' ow' (fin R' f h1 rs.1 rs.2.1 (by
      obtain ⟨_, _, S, hS, hs⟩ := rs
      exact ⟨S, fun a sa => ⟨(hS a sa).1, (hS a sa).2.1, (hS a sa).2.2.1, (hS a sa).2.2.2.1⟩, hs⟩))⟩
  · rename_i e' hx
    obtain ⟨os, h1, h2⟩ := Option.map_eq_some_iff.mp hf
    cases h2
    exact ⟨F0, ow, _, _, R, hx, fun F' H' ow' σ' R' f => k .non F' H' ow' (fin R' f h1 rfl (fun z => nomatch z) ⟨fun _ => False, fun _ z => z.elim, .non⟩)⟩
  · cases hf

end
structure FnEG (E : ExtK) (P : Program) (w : World) (K : PySem.W.Frag) (mg : Str → Option Value) (base : Heap) (k : Nat) (x : Str) (params : Arguments) (body : List Stmt) (scope : Scope) (ps : List Str) (f : FSem) : Prop where
  ex : ∃ (fA : Addr) (fd : FuncData), FnG P w K mg base CX0 k fA fd ps (spI E f ps.length) ∧ mg x = some (.ref fA) ∧ FunD K x x params body scope [] [] fA fd
  bd : ∀ (kV doc pm : Value) (an : Option Addr) (cdv ct : Value) (us : List Value), us.length = ps.length → bindArgs (PySem.W.fnOf x x params body scope .none kV doc pm an cdv ct) ⟨us, []⟩ = pure (ps.zip us)
section
variable {E : ExtK} {X : Cx} [KX X] {e : Expr} {es : List Expr} {p pos : Pos} {k j : Nat} {x : Str} {params : Arguments} {body : List Stmt} {scope : Scope} {ps : List Str} {f : FSem}
theorem se_callG {q br : Bool} {ev : EvR} (F : FnEG E X.prog X.w X.K X.mg X.base k x params body scope ps f) (nr : NoRep X.A) (hr : Room j X.A) (hk : k ≤ j) (hg : Gl X x) (ha : SAr E X (e :: es) q br ev) (hl : (e :: es).length = ps.length) (hev : ∀ env as env', ev env = some (as, env') → as.length = (e :: es).length)
    (hdb : (x == ("__debug__" : Str)) = false := by decide) (he : starEach (e :: es) X.env = (false, eval e X.env) :: starEach es X.env := by rfl) (hpl : (backTo pos (starEach es X.env)).any (·.1) = false := by rfl) :
    SE E X (.Call (.Name x p) (e :: es) [] pos) (q && !br) (evCall f ev) := ⟨fun fr => by
  obtain ⟨fA, fd, F1, hm, FD⟩ := F.ex
  refine (peG (F1.mono hk) nr hr hg hm FD.kp (FD.bindsN F.bd) pass0 (ha.pa fr) hdb he hpl).weak fun σ H Q ⟨F, ow, env, r, env', R, ee, k⟩ => ?_
  obtain ⟨as, e1, ss, outs, h1, h2, h3, h4, h5⟩ := evCall_some ee
  refine ⟨F, ow, env, as, e1, R, h1, fun vs F' H' ow' R' g hq aok => ?_⟩
  exact call_core (br := br) R' g hq aok ((hev _ _ _ h1).trans hl) h2 h3 h4 h5 (fun z => ha.nb z _ _ _ h1) k⟩
theorem se_callG0 (F : FnEG E X.prog X.w X.K X.mg X.base k x params body scope [] f) (nr : NoRep X.A) (hr : Room j X.A) (hk : k ≤ j) (hg : Gl X x) (hdb : (x == ("__debug__" : Str)) = false := by decide) : SE E X (.Call (.Name x p) [] [] pos) true (evCall f arN) := ⟨fun fr => by
  obtain ⟨fA, fd, F1, hm, FD⟩ := F.ex
  refine (peG0 (F1.mono hk) nr hr hg hm FD.kp (FD.bindsN F.bd) pass0 hdb).weak fun σ H Q ⟨F, ow, env, r, env', R, ee, k⟩ => ?_
  obtain ⟨as, e1, ss, outs, h1, h2, h3, h4, h5⟩ := evCall_some ee
  cases h1
  exact call_core (vs := []) (q := true) (br := false) R Grow.refl (fun _ => Ex.refl _) .nil rfl h2 h3 h4 h5 (fun _ _ => List.not_mem_nil) k⟩
theorem se_callKG {q q' br br' : Bool} {eva evk : EvR} {n : Nat} {ks : List Str} {kws : List Keyword} {is : List Nat} (F : FnEG E X.prog X.w X.K X.mg X.base k x params body scope ps f) (nr : NoRep X.A) (hr : Room j X.A) (hk : k ≤ j) (hg : Gl X x) (ha : SAr E X (e :: es) q br eva) (hkw : SKr E X kws q' br' evk)
    (hn : (e :: es).length = n) (hla : ∀ env as env', eva env = some (as, env') → as.length = n) (hlk : ∀ env as env', evk env = some (as, env') → as.length = ks.length) (hi : is.all (fun i => decide (i < n + ks.length)) = true) (hp : is.length = ps.length)
    (hb : ∀ (kV doc pm : Value) (an : Option Addr) (cdv ct : Value) (us ws : List Value), us.length = n → ws.length = ks.length → bindArgs (PySem.W.fnOf x x params body scope .none kV doc pm an cdv ct) ⟨us, ks.zip ws⟩ = pure (ps.zip (pick (us ++ ws) is)))
    (hall : (backToKw pos (keywordEach kws X.env)).all (·.1.isSome) = true := by rfl) (hks : (backToKw pos (keywordEach kws X.env)).filterMap (·.1) = ks := by rfl)
    (hdb : (x == ("__debug__" : Str)) = false := by decide) (he : starEach (e :: es) X.env = (false, eval e X.env) :: starEach es X.env := by rfl)
    (hpl : ((backTo pos (starEach (e :: es) X.env)).any (·.1) || (backToKw pos (keywordEach kws X.env)).any (·.1.isNone)) = false := by rfl) :
    SE E X (.Call (.Name x p) (e :: es) kws pos) ((q && q') && !(br || br')) (evCallK f is eva evk) := ⟨fun fr => by
  obtain ⟨fA, fd, F1, hm, FD⟩ := F.ex
  have KB : KBn X.K fd ps n ks (fun us ws => pick (us ++ ws) is) (fun us ws => pick (us ++ ws) is) := by
    obtain ⟨oc, od, dV, kV, doc, pm, an, cdv, ct, osl, rfl, lk, hcd, hD, hK⟩ := FD.ex
    rcases hD with ⟨_, rfl⟩ | ⟨e, _⟩
    · exact ⟨fun s us ws _ l1 l2 => .of_eq (hb kV doc pm an cdv ct us ws l1 l2), fun r1 r2 => vals_pick (r1.append r2) is⟩
    · exact absurd rfl e
  refine (peGN (F1.mono hk) nr hr hg hm FD.kp KB pass0 (ha.pa fr) (hkw.pk fr) hall hks hdb he hpl).weak fun σ H Q ⟨F, ow, env, r, env', R, ee, k⟩ => ?_
  obtain ⟨as, e1, ss, outs, h1, h2, h3, h4, h5⟩ := evCall_some ee
  obtain ⟨⟨as1, e2⟩, g1, h1⟩ := bind2 h1
  obtain ⟨⟨as2, e3⟩, g2, h1⟩ := Option.map_eq_some_iff.mp h1
  cases h1
  refine ⟨F, ow, env, as1, e2, R, g1, fun vs F' H' ow' R' g hq aok => ⟨F', ow', e2, as2, e3, R', g2, fun zs F2 H2 ow2 R2 gg hq2 aok2 => ?_⟩⟩
  have al := aok.mono gg.f (σ := σ)
  refine ⟨aok.get.1.trans (hla _ _ _ g1), aok2.get.1.trans (hlk _ _ _ g2), ?_⟩
  refine call_core (br := br || br') (q := q && q') R2 (g.tr gg) (fun z => ?_) ((al.append aok2).pick is) ?_ h2 h3 h4 h5 (fun z j hj => ?_) k
  · obtain ⟨z1, z2⟩ := Bool.and_eq_true_iff.mp z
    exact (hq z1).tr (hq2 z2)
  · rw [pick_len, hp]
    intro i hmem
    have := List.all_eq_true.mp hi i hmem
    rw [List.length_append, hla _ _ _ g1, hlk _ _ _ g2]
    simpa using this
  · obtain ⟨z1, z2⟩ := Bool.or_eq_false_iff.mp z
    rcases List.mem_append.mp (pick_mem hj) with y | y
    · exact ha.nb z1 _ _ _ g1 j y
    · exact hkw.nb z2 _ _ _ g2 j y⟩
/-- f(k = v, ..) -/
theorem se_callKG0 {q' br' : Bool} {evk : EvR} {ks : List Str} {kws : List Keyword} {is : List Nat} (F : FnEG E X.prog X.w X.K X.mg X.base k x params body scope ps f) (nr : NoRep X.A) (hr : Room j X.A) (hk : k ≤ j) (hg : Gl X x) (hkw : SKr E X kws q' br' evk)
    (hlk : ∀ env as env', evk env = some (as, env') → as.length = ks.length) (hi : is.all (fun i => decide (i < ks.length)) = true) (hp : is.length = ps.length)
    (hb : ∀ (kV doc pm : Value) (an : Option Addr) (cdv ct : Value) (ws : List Value), ws.length = ks.length → bindArgs (PySem.W.fnOf x x params body scope .none kV doc pm an cdv ct) ⟨[], ks.zip ws⟩ = pure (ps.zip (pick ws is)))
    (hall : (backToKw pos (keywordEach kws X.env)).all (·.1.isSome) = true := by rfl) (hks : (backToKw pos (keywordEach kws X.env)).filterMap (·.1) = ks := by rfl)
    (hdb : (x == ("__debug__" : Str)) = false := by decide) (hpl : ((backTo pos (starEach [] X.env)).any (·.1) || (backToKw pos (keywordEach kws X.env)).any (·.1.isNone)) = false := by rfl) :
    SE E X (.Call (.Name x p) [] kws pos) (q' && !br') (evCallK f is arN evk) := ⟨fun fr => by
  obtain ⟨fA, fd, F1, hm, FD⟩ := F.ex
  have KB : KBn X.K fd ps 0 ks (fun us ws => pick (us ++ ws) is) (fun us ws => pick (us ++ ws) is) := by
    obtain ⟨oc, od, dV, kV, doc, pm, an, cdv, ct, osl, rfl, lk, hcd, hD, hK⟩ := FD.ex
    rcases hD with ⟨_, rfl⟩ | ⟨e, _⟩
    · refine ⟨fun s us ws _ l1 l2 => ?_, fun r1 r2 => vals_pick (r1.append r2) is⟩
      obtain rfl := List.length_eq_zero_iff.mp l1
      exact .of_eq (hb kV doc pm an cdv ct ws l2)
    · exact absurd rfl e
  refine (peGN0 (F1.mono hk) nr hr hg hm FD.kp KB pass0 (hkw.pk fr) hall hks hdb hpl).weak fun σ H Q ⟨F, ow, env, r, env', R, ee, k⟩ => ?_
  obtain ⟨as, e1, ss, outs, h1, h2, h3, h4, h5⟩ := evCall_some ee
  obtain ⟨⟨as1, e2⟩, g1, h1⟩ := bind2 h1
  obtain ⟨⟨as2, e3⟩, g2, h1⟩ := Option.map_eq_some_iff.mp h1
  cases h1
  cases g1
  refine ⟨F, ow, env, as2, e3, R, g2, fun zs F2 H2 ow2 R2 gg hq2 aok2 => ⟨aok2.get.1.trans (hlk _ _ _ g2), ?_⟩⟩
  refine call_core (br := br') (q := q') R2 gg hq2 (aok2.pick is) ?_ h2 h3 h4 h5 (fun z j hj => hkw.nb z _ _ _ g2 j (pick_mem hj)) k
  rw [pick_len, hp]
  intro i hmem
  have := List.all_eq_true.mp hi i hmem
  rw [hlk _ _ _ g2]
  simpa using this⟩
end
/-! ### repr of data -/
/-- data whose repr the model tells -/
def showOk (d : PyData) : Bool := d.showable && !d.hasDict && decide (d.shown.length ≤ 16777216) && decide (d.depth ≤ 60)
def cRepr : List PyData → Option Slot
  | [d] => if showOk d = true then some (.pur (.str d.shown)) else none
  | _ => none
section
variable {X : Cx} [hx : KX X]
theorem call_reprD (nr : NoRep X.A) (hu : X.A.units + 64 < cLine) : CallR X (.builtin "repr") (fun xs H Q => ∃ v d, xs = [v] ∧ Dp X.K H v d ∧ showOk d = true ∧ Q (.str d.shown) H) := by
  intro pins s σ H xs us Q I r h
  obtain ⟨v, d, rfl, dp, ok, q⟩ := h
  obtain ⟨u, rfl, ru⟩ := vals1 r
  unfold showOk at ok
  simp only [Bool.and_eq_true, decide_eq_true_eq, Bool.not_eq_true'] at ok
  obtain ⟨⟨⟨o1, o2⟩, o3⟩, o4⟩ := ok
  have big : ∀ {a : Addr}, u = .ref a → wpAny (model X.prog X.w) X.A (PySem.call (.builtin "repr") [u]) (EP X pins σ Q) X.xe s := fun {a} e => by
    obtain ⟨as, rd⟩ := Dp.reads I d v u dp ru
    subst e
    exact repr_of_reads' rd o1 (fun z => by rw [o2] at z; cases z) nr (by omega) (fun _ _ z => z) (fun h2 u2 tk k => ⟨.str _, H, I.kept k, ⟨_, rfl⟩, q⟩) (by rw [sizeLine_eq]; exact o3)
  cases dp with
  | non => cases (show u = Value.none from ru); exact PySem.P.repr_of_none ⟨.str _, H, I.tok _, ⟨_, rfl⟩, q⟩
  | bl b => cases (show u = Value.bool b from ru); exact PySem.P.repr_of_bool ⟨.str _, H, I.tok _, ⟨_, rfl⟩, by cases b <;> exact q⟩
  | int i =>
    obtain ⟨t, rfl⟩ := (show ∃ t, u = Value.int i t from ru)
    exact PySem.P.repr_of_int (by simpa [PyData.showable] using o1) ⟨.str _, H, I.tok _, ⟨_, rfl⟩, q⟩
  | str x =>
    obtain ⟨t, rfl⟩ := (show ∃ t, u = Value.str x t from ru)
    exact PySem.P.repr_of_str ⟨.str _, H, I.tok _, ⟨_, rfl⟩, q⟩ (by rw [sizeLine_eq]; exact o3)
  | lst a b => exact big (show u = Value.ref _ from ru)
  | tup a b => exact big (show u = Value.ref _ from ru)
theorem cv_repr (nr : NoRep X.A) (hu : X.A.units + 64 < cLine) : CallV X (.builtin "repr") cRepr := .of (call_reprD nr hu) fun xs H Q F ds r ex hd hr k => by
  unfold cRepr at hr
  split at hr
  · split at hr
    · rename_i d z
      cases hr
      obtain ⟨v, rfl, hv⟩ := hd.one
      exact ⟨v, d, rfl, hv.dp ex, z, k.data ex (.str _)⟩
    · cases hr
  · cases hr
end
end IX
namespace IX
open PySem PySem.Spec PyProof.Rows L2
@[simp] theorem e_repr {d : PyData} : cRepr [d] = if showOk d = true then some (.pur (.str d.shown)) else none := rfl
end IX

/-! text IX33 -/
set_option maxHeartbeats 2000000
/-! A law's end where calls of repr are served: its def is called with no repr under way. -/
namespace IX
open PySem PySem.Spec PyProof.Rows L2
section
variable {P : Program} {w : World} {K : PySem.W.Frag} {mg mb : Str → Option Value} {CX : CXT} {k : Nat} {fa a : Addr} {fd : FuncData} {x : Str} {sp : Sp} {st : Shared} {vs : List Value} {ns : List Int}
/-- what a call at the top must reach -/
abbrev TopEnd (st : Shared) (r : Result) (s' : Shared) : Prop := r = .ok (.ret (.bool true)) ∧ OldK st.heap s'.heap ∧ s'.os = st.os ∧ AllBare s'.gens
/-- how the end of such a call looks from the top, nothing but a list that is known being tracked -/
theorem top_end {H : Hp} {r : Result} {s' : Shared} (only : Only H) (ok : HOk P w H st.heap) (esc : ∀ e s', CX [] H st (fun _ _ _ => False) e s' → False) (h : CR CX [] P w H st (fun v _ => v = .bl true) (fun _ _ _ => False) r s') : TopEnd st r s' := by
  cases r with
  | error e => exact (esc e s' h).elim
  | ok fl =>
    cases fl with
    | next => exact False.elim h
    | brk => exact False.elim h
    | cont => exact False.elim h
    | ret u =>
    obtain ⟨v, H2, os, bare, un, ok2, rv, q⟩ := h
    have q : v = .bl true := q
    subst q
    have rv : u = Value.bool true := rv
    subst rv
    refine ⟨rfl, OldK.of_keep fun b o e => ?_, os, bare⟩
    rcases only b with z | ⟨ob, xs, z⟩
    · exact un.keep b o e z (List.not_mem_nil) (List.not_mem_nil)
    · have was := (ok b _ z).1
      rw [e] at was
      cases was
      exact (ok2 b _ (un.frzs b _ _ z)).1
/-- the call, over a heap in which at most the script is tracked -/
theorem top_call {H : Hp} (KX : K.In st.heap) (hns : st.heap.Ns mainGlobals mg) (hb : st.heap.Ns builtinsNs mb) (hbb : ∀ x : Str, x ≠ "__name__" → mb x = bootBuiltins x) (hlim : st.heap.NoLimit) (hg : st.gens = #[])
    (ha : st.heap.get? a = some { cls := .type "list", data := .seq vs.toArray }) (room : Room k callerA) (F : ∀ base : Heap, K.In base → base.Ns mainGlobals mg → FnG P w K mg base CX k fa fd [x] sp) (bind : ∀ (s : Shared) (u : Value), BindsTo s fd ⟨[u], []⟩ [(x, u)])
    (want : sp [.ref a] H (fun v _ => v = .bl true) fun _ _ _ => False) (esc : ∀ e s', CX [] H st (fun _ _ _ => False) e s' → False) (only : Only H) (ok : HOk P w H st.heap) (one : ∀ b, H b ≠ none → b = a ∧ K.lookup a = none) :
    codeAny (model P w) callerA (.call (.ref fa) ⟨[.ref a], []⟩) (TopEnd st) st := by
  have free : ∀ {b : Addr}, b ≠ a → H b = none := fun {b} n => by
    by_cases z : H b = none
    · exact z
    · exact absurd (one b z).1 n
  have dicts : ∀ {b : Addr} {m : Str → Option Value}, st.heap.Ns b m → (hidT st.heap H).Ns b m := fun {b m} ⟨o, es, n, at_, dat, rest⟩ => by
    refine ⟨o, es, n, hidT_get at_ (free fun z => ?_), dat, rest⟩
    subst z
    rw [ha] at at_
    cases at_
    cases (show Data.seq vs.toArray _ = Data.dict es n from dat)
  have kin : K.In (hidT st.heap H) := fun b o at_ => hidT_get (KX b o at_) (by
    by_cases z : H b = none
    · exact z
    · obtain ⟨e1, e2⟩ := one b z
      subst e1
      rw [at_] at e2
      cases e2)
  have ground : Mod K mg (hidT st.heap H) := ⟨kin, dicts hns, ⟨mb, dicts hb, hbb⟩, by obtain ⟨mc, l1, l2⟩ := hlim; exact ⟨mc, dicts l1, l2⟩⟩
  refine codeAny_mono ((F _ kin (dicts hns)).go callerA [] st H _ [.ref a] [.ref a] _ _ rfl room ⟨rfl, ground, fun b o z => of_hidT z, Nat.le_of_eq (hidT_size _ _), trivial, (fun b hb => by cases hb), ok, .of_eq hg⟩ (bind st (.ref a)) (.cons rfl .nil) want) fun r s' h => top_end only ok esc h
theorem law_callG (KX : K.In st.heap) (hns : st.heap.Ns mainGlobals mg) (hb : st.heap.Ns builtinsNs mb) (hbb : ∀ x : Str, x ≠ "__name__" → mb x = bootBuiltins x) (hlim : st.heap.NoLimit) (hg : st.gens = #[])
    (ha : st.heap.get? a = some { cls := .type "list", data := .seq vs.toArray }) (hi : IntsAre vs ns) (hl : ns.length ≤ sizeLine) (room : Room k callerA)
    (F : ∀ base : Heap, K.In base → base.Ns mainGlobals mg → FnG P w K mg base CX k fa fd [x] sp) (bind : ∀ (s : Shared) (u : Value), BindsTo s fd ⟨[u], []⟩ [(x, u)])
    (want : ∀ H : Hp, Only H → SqL K H a (ns.map V.int) → sp [.ref a] H (fun v _ => v = .bl true) fun _ _ _ => False) (esc : ∀ H e s', CX [] H st (fun _ _ _ => False) e s' → False) :
    codeAny (model P w) callerA (.call (.ref fa) ⟨[.ref a], []⟩) (TopEnd st) st := by
  have vals := vals_ints hi
  cases own : K.lookup a with
  | some o =>
    have at_ := KX a o own
    rw [ha] at at_
    cases at_
    have none_ : Only fun _ => none := fun _ => .inl rfl
    exact top_call (H := fun _ => none) KX hns hb hbb hlim hg ha room F bind (want _ none_ (.inr ⟨_, vs.toArray, _, own, rfl, rfl, rfl, by rw [List.size_toArray, hi.length]; exact hl, by simpa using vals⟩)) (esc _) none_ (fun b u z => by cases (show (none : Option HO) = some u from z)) fun b z => absurd rfl z
  | none =>
    let scr : Obj := { cls := .type "list", data := .seq vs.toArray }
    have here : upd (fun _ => none) a (.frz scr (.lst (ns.map V.int))) a = some (.frz scr (.lst (ns.map V.int))) := upd_same
    have there : ∀ {b u}, upd (fun _ => none) a (.frz scr (.lst (ns.map V.int))) b = some u → b = a ∧ u = .frz scr (.lst (ns.map V.int)) := fun {b u} z => by
      by_cases n : b = a
      · subst n; rw [here] at z; exact ⟨rfl, (Option.some.inj z).symm⟩
      · rw [upd_ne n] at z; cases z
    have only : Only (upd (fun _ => none) a (.frz scr (.lst (ns.map V.int)))) := fun b => by
      by_cases n : b = a
      · subst n; exact .inr ⟨_, _, here⟩
      · exact .inl (upd_ne n)
    refine top_call KX hns hb hbb hlim hg ha room F bind (want _ only (.inl (.inr ⟨scr, here⟩))) (esc _) only (fun b u z => ?_) fun b z => ?_
    · obtain ⟨rfl, rfl⟩ := there z
      exact ⟨ha, by rw [List.length_map]; exact hl, vs, _, vals, ha⟩
    · cases e : upd (fun _ => none) a (.frz scr (.lst (ns.map V.int))) b with
      | none => exact absurd e z
      | some u => exact ⟨(there e).1, own⟩
end
theorem walkG {l : PySem.W.OpenLaw} {n k : Nat} {q : Program} {loose : List Str} {XP : (Str → Option Value) → Heap → Prop} {YP : World → Heap → Prop} {d : DefRec} {CX : CXT} {x : Str} (hn : l.most = some n) (hn2 : n ≤ sizeLine) (hdf : d.params.defaults = []) (room : Room k callerA)
    (F : ∀ (w : World) (mg : Str → Option Value) (fa : Addr) (h : Heap), YP w h → h.Ns mainGlobals mg → mg d.name = some (.ref fa) →
      ∃ (K : PySem.W.Frag) (fd : FuncData) (sp : Sp), K.In h ∧ (∀ (s : Shared) (u : Value), BindsTo s fd ⟨[u], []⟩ [(x, u)]) ∧ (∀ (H : Hp) (a : Addr) (ns : List Int), ns.length ≤ n → Only H → SqL K H a (ns.map V.int) → sp [.ref a] H (fun v _ => v = .bl true) fun _ _ _ => False) ∧
        ∀ base : Heap, K.In base → base.Ns mainGlobals mg → FnG l.prog w K mg base CX k fa fd [x] sp)
    (esc : ∀ (H : Hp) (s : Shared) (e : Value) (s' : Shared), CX [] H s (fun _ _ _ => False) e s' → False) : PySem.W.WalkO q loose XP YP l.row.toRowW d [] (fun f vs => PySem.call f vs) :=
  Att.attach_call hn hdf fun w s₀ st mg mb fa o pm cd doc a vs ns G Y ho hd hcd hmg hobj hints hlen hg => by
    obtain ⟨K, fd, sp, kx, bind, want, FF⟩ := F w mg fa _ Y G.T.g hmg
    exact law_callG kx G.T.g G.T.b G.T.builtins G.T.nolimit hg hobj hints (Nat.le_trans hlen hn2) room FF bind (fun H hO hS => want H a ns hlen hO hS) fun H e s' => esc H st e s'
variable [KC]
theorem law_endG {P : Program} {w : World} {mg : Str → Option Value} {base : Heap} {k : Nat} {f : Addr} {fd : FuncData} {g : FSem} {x : Str} (F : FnG P w KC.K mg base CX0 k f fd [x] (spI E0 g 1)) (h : ∀ ns : List Int, ns.length ≤ 63 → ∃ outs, g [.ext true 2 (.tuple (ns.map PyData.int))] = some (.pur (.bool true), outs)) :
    FnG P w KC.K mg base CX0 k f fd [x] (fun vs H Q _ => ∃ (a : Addr) (ns : List Int), vs = [.ref a] ∧ ns.length ≤ 63 ∧ SqL KC.K H a (ns.map V.int) ∧ ∀ v H', v = .bl true → Q v H') :=
  F.imp fun vs H Q E ⟨a, ns, e, hl, hs, q⟩ => by
    subst e
    obtain ⟨outs, ho⟩ := h ns hl
    refine ⟨rfl, H, H, fun _ => none, _, _, outs, Ex.refl _, Ex.refl _, (fun a i z => nomatch z), rfl, fun i s e => ?_, ho, fun v F' H' ow' T => q v H' ?_⟩
    · cases i with
      | zero => cases e; exact ⟨rfl, _, rfl, .inr (.inl ⟨a, _, _, rfl, hs, RpA.ints ns, rfl⟩)⟩
      | succ i => simp at e
    · obtain ⟨S, _, hs⟩ := T.res
      cases hs
      rfl
end IX

/-! text IX34 -/
set_option maxHeartbeats 1000000
/-! Calls whose arguments are looked at only; a try that nothing is raised in; all, any. -/
namespace IX
open PySem PySem.Spec PyProof.Rows L2
variable [KC]
section
variable {E : ExtK} {X : Cx} [KX X] {e : Expr} {es : List Expr} {p pos : Pos} {k j : Nat} {x : Str} {params : Arguments} {body : List Stmt} {scope : Scope} {ps : List Str} {f : FSem}
/-- nothing of the heap -/
def scalar : PyData → Bool
  | .none => true
  | .bool _ => true
  | .int _ => true
  | .str _ => true
  | _ => false
theorem scalar_rp {F G : Hp} {v : V} {d : PyData} (h : scalar d = true) (r : Rp F v d) : Rp G v d := by
  cases d with
  | none => cases r; exact .non
  | bool b => cases r; exact .bl b
  | int i => cases r; exact .int i
  | str z => cases r; exact .str z
  | list ds => cases h
  | tuple ds => cases h
  | dict ds => cases h
/-- f(..), each argument looked at; what comes back is a scalar -/
def evCallB (f : FSem) (ev : EvA) : EvE := fun env => (ev env).bind fun p => match f (p.1.map .pur) with
  | some (.pur d, _) => if scalar d = true then some (.pur d, p.2) else none
  | _ => none
/-- the lists at hand, beside what is frozen -/
def alsoF (F H : Hp) (vs : List V) : Hp := fun a => match F a with
  | some o => some o
  | none => if V.ref a ∈ vs then (match H a with | some (.lst xs) => some (.lst xs) | _ => none) else none
theorem also_F {F H : Hp} {vs : List V} : Ex F (alsoF F H vs) := fun a o e => by unfold alsoF; rw [e]
theorem also_H {F H : Hp} {vs : List V} (f : Ex F H) : Ex (alsoF F H vs) H := fun a o e => by
  unfold alsoF at e
  split at e
  · rename_i u eu
    cases e
    exact f a _ eu
  · split at e
    · split at e
      · rename_i xs ex
        cases e
        exact ex
      · cases e
    · cases e
theorem also_rp {F H : Hp} {vs : List V} {v : V} {d : PyData} (f : Ex F H) (hm : v ∈ vs) (h : RpL F H v d) : Rp (alsoF F H vs) v d := by
  rcases h with h | ⟨p, us, ds, rfl, rfl, hp, r⟩
  · exact Rp.mono also_F _ _ h
  · refine .lst (vs := us) ?_ (RpA.mono also_F _ _ r)
    unfold alsoF
    cases e : F p with
    | some o => have := f p o e; rw [hp] at this; cases this; rfl
    | none => rw [if_pos hm, hp]
theorem also_all {F H : Hp} {ws : List V} (f : Ex F H) : ∀ {vs : List V} {ds : List PyData}, (∀ v ∈ vs, v ∈ ws) → RpLA F H vs ds → RpA (alsoF F H ws) vs ds
  | _, _, _, .nil => .nil
  | _, _, m, .cons h t => .cons (also_rp f (m _ (by simp)) h) (also_all f (fun v hv => m v (by simp [hv])) t)
theorem RpLA.len {F H : Hp} : ∀ {vs : List V} {ds : List PyData}, RpLA F H vs ds → vs.length = ds.length
  | _, _, .nil => rfl
  | _, _, .cons _ t => by rw [List.length_cons, List.length_cons, t.len]
theorem look_core {fr : Fra} {F0 H0 F H : Hp} {ow0 ow : Ow} {env : SEnv} {σ : L2.St} {n : Nat} {vs : List V} {ds : List PyData} {outs : List Slot} {d : PyData} {q : Bool} {Q : VK} {XE : XK} (R : Rel E fr F H ow env σ) (g : Grow F0 H0 ow0 F H ow) (hq : q = true → Ex H0 H) (la : RpLA F H vs ds) (hn : vs.length = n)
    (hf : f (ds.map .pur) = some (.pur d, outs)) (sc : scalar d = true) (k : ∀ v F' H' ow', Rel E fr F' H' ow' env σ → Grow F0 H0 ow0 F' H' ow' → (q = true → Ex H0 H') → Res E fr H0 ow0 F' H' ow' v (.pur d) → Q v H') : spI E f n vs H Q XE := by
  refine ⟨hn, alsoF F H vs, H, fun _ => none, ds.map .pur, .pur d, outs, also_H R.fh, Ex.refl _, (fun a i z => nomatch z), ?_, fun i s e => ?_, hf, fun v F' H' ow' T => ?_⟩
  · rw [List.length_map, ← la.len, hn]
  · obtain ⟨d1, h1, rfl⟩ := List.getElem?_map .. ▸ e |> Option.map_eq_some_iff.mp
    obtain ⟨v, h2, h3⟩ := (also_all (ws := vs) R.fh (fun _ z => z) la).get h1
    exact ⟨rfl, v, h2, h3⟩
  · obtain ⟨S, _, hs⟩ := T.res
    have keep : ∀ a o, H a = some o → H' a = some o := T.bh
    have R' : Rel E fr F H' ow env σ := ⟨fun a o z => keep a o (R.fh a o z), R.f0, fun a o z => keep a o (R.bh a o z), R.fb, fun a z => T.dom a (R.dom a z), fun a i z => ⟨(R.sep a i z).1, (R.sep a i z).2.1, T.dom a (R.sep a i z).2.2⟩, R.len, fun i s z => (R.sl i s z).imp id fun ⟨v, h1, h2⟩ =>
      ⟨v, h1, h2.mono E (Ex.refl _) (fun _ z => z) fun a ha => by
        obtain ⟨o, ho⟩ := some_of_ne (R.sep a i ha).2.2
        rw [ho]; exact keep a o ho⟩, R.pr⟩
    have G' : Grow F H ow F H' ow := ⟨Ex.refl _, fun a o z _ => keep a o z, fun a z => T.dom a z, fun a _ n => ⟨rfl, n⟩⟩
    exact k v F H' ow R' (g.tr G') (fun z => (hq z).tr keep) (Res.pur (scalar_rp sc hs))
theorem evCallB_some {ev : EvA} {env env' : SEnv} {r : Slot} (h : evCallB f ev env = some (r, env')) : ∃ ds d outs, ev env = some (ds, env') ∧ f (ds.map .pur) = some (.pur d, outs) ∧ scalar d = true ∧ r = .pur d := by
  obtain ⟨⟨ds, e1⟩, h1, h⟩ := bind2 h
  dsimp only at h
  split at h
  · rename_i d outs hf
    split at h
    · cases h; exact ⟨ds, d, outs, h1, hf, by assumption, rfl⟩
    · cases h
  · cases h
theorem se_callBG {q : Bool} {ev : EvA} (F : FnEG E X.prog X.w X.K X.mg X.base k x params body scope ps f) (nr : NoRep X.A) (hr : Room j X.A) (hk : k ≤ j) (hg : Gl X x) (ha : SAB E X (e :: es) q ev) (hl : ∀ env ds env', ev env = some (ds, env') → ds.length = ps.length)
    (hdb : (x == ("__debug__" : Str)) = false := by decide) (he : starEach (e :: es) X.env = (false, eval e X.env) :: starEach es X.env := by rfl) (hpl : (backTo pos (starEach es X.env)).any (·.1) = false := by rfl) :
    SE E X (.Call (.Name x p) (e :: es) [] pos) q (evCallB f ev) := ⟨fun fr => by
  obtain ⟨fA, fd, F1, hm, FD⟩ := F.ex
  refine (peG (F1.mono hk) nr hr hg hm FD.kp (FD.bindsN F.bd) pass0 (ha.pa fr) hdb he hpl).weak fun σ H Q ⟨F, ow, env, r, env', R, ee, k⟩ => ?_
  obtain ⟨ds, d, outs, h1, h2, h3, rfl⟩ := evCallB_some ee
  exact ⟨F, ow, env, ds, env', R, h1, fun vs F' H' ow' R' g hq la => look_core (q := q) R' g hq la (la.len.trans (hl _ _ _ h1)) h2 h3 k⟩⟩
theorem evCons_len {a : EvB} {b : EvA} {n : Nat} (h : ∀ env ds env', b env = some (ds, env') → ds.length = n) : ∀ env ds env', evCons a b env = some (ds, env') → ds.length = n + 1 := fun env ds env' e => by
  obtain ⟨⟨d, e1⟩, h1, e⟩ := bind2 e
  obtain ⟨⟨ds2, e2⟩, h2, e⟩ := Option.map_eq_some_iff.mp e
  cases e
  rw [List.length_cons, h _ _ _ h2]
theorem evNil_len : ∀ env ds env', evNil env = some (ds, env') → ds.length = 0 := fun env ds env' e => by cases e; rfl
/-! a try whose body raises nothing -/
theorem ss_tryN {b : List Stmt} {h₀ : ExceptHandler} {hs : List ExceptHandler} {y : EvS} (hn : ∀ e s, ¬ X.xe e s) (hb : SSs E X b y) : SS E X (.Try b (h₀ :: hs) [] [] pos) y := ⟨fun fr => (ps_try_never hn (hb.ps fr) pss_nil).weak fun D σ H h => h⟩
/-! all, any -/
def boolsD : List PyData → Option (List Bool)
  | [] => some []
  | .bool b :: ds => (boolsD ds).map (b :: ·)
  | _ => none
theorem boolsD_map : ∀ {ds : List PyData} {bs : List Bool}, boolsD ds = some bs → ds = bs.map PyData.bool
  | [], bs, h => by cases h; rfl
  | .bool b :: ds, bs, h => by
    obtain ⟨m, hm, rfl⟩ := Option.map_eq_some_iff.mp h
    rw [boolsD_map hm]; rfl
  | .none :: _, _, h => by cases h
  | .int _ :: _, _, h => by cases h
  | .str _ :: _, _, h => by cases h
  | .list _ :: _, _, h => by cases h
  | .tuple _ :: _, _, h => by cases h
  | .dict _ :: _, _, h => by cases h
theorem RpA.of_bools {F : Hp} : ∀ {vs : List V} {bs : List Bool}, RpA F vs (bs.map PyData.bool) → vs = bs.map V.bl
  | _, [], h => by cases h; rfl
  | _, b :: bs, h => by
    cases h with
    | cons a r =>
      cases a
      rw [List.map_cons, RpA.of_bools r]
def cAll : List PyData → Option Slot
  | [.list ds] => (boolsD ds).map fun bs => .pur (.bool (bs.all id))
  | _ => none
def cAny : List PyData → Option Slot
  | [.list ds] => (boolsD ds).map fun bs => .pur (.bool (bs.any id))
  | _ => none
theorem cv_all (hc : X.calm = true) : CallV X (.builtin "all") cAll := .of (cr_all hc) fun xs H Q F ds r ex hd hr k => by
  unfold cAll at hr
  split at hr
  · rename_i es
    obtain ⟨bs, hb, rfl⟩ := Option.map_eq_some_iff.mp hr
    obtain ⟨v, rfl, hv⟩ := hd.one
    obtain ⟨a, vs, rfl, hp, r⟩ := hv.lst ex
    rw [boolsD_map hb] at r
    rw [RpA.of_bools r] at hp
    exact ⟨a, bs, rfl, SqL.of hp, k.data ex (.bl _)⟩
  · cases hr
theorem cv_any (hc : X.calm = true) : CallV X (.builtin "any") cAny := .of (cr_any hc) fun xs H Q F ds r ex hd hr k => by
  unfold cAny at hr
  split at hr
  · rename_i es
    obtain ⟨bs, hb, rfl⟩ := Option.map_eq_some_iff.mp hr
    obtain ⟨v, rfl, hv⟩ := hd.one
    obtain ⟨a, vs, rfl, hp, r⟩ := hv.lst ex
    rw [boolsD_map hb] at r
    rw [RpA.of_bools r] at hp
    exact ⟨a, bs, rfl, SqL.of hp, k.data ex (.bl _)⟩
  · cases hr
end
theorem bt_all : bootBuiltins "all" = some (.builtin "all") := by decide +kernel
theorem bt_any : bootBuiltins "any" = some (.builtin "any") := by decide +kernel
end IX
namespace IX
open PySem PySem.Spec PyProof.Rows L2
section
variable {env : SEnv}
@[simp] theorem e_CallB {f : FSem} {ev : EvA} : evCallB f ev env = ((ev env).bind fun p => match f (p.1.map .pur) with
  | some (.pur d, _) => if scalar d = true then some (.pur d, p.2) else none
  | _ => none) := rfl
@[simp] theorem e_scB {b : Bool} : scalar (.bool b) = true := rfl
@[simp] theorem e_scI {b : Int} : scalar (.int b) = true := rfl
@[simp] theorem e_scS {b : Str} : scalar (.str b) = true := rfl
@[simp] theorem e_scN : scalar .none = true := rfl
theorem boolsD_of : ∀ bs : List Bool, boolsD (bs.map .bool) = some bs
  | [] => rfl
  | b :: bs => by rw [List.map_cons, boolsD, boolsD_of bs]; rfl
theorem cAll_of (bs : List Bool) : cAll [.list (bs.map .bool)] = some (.pur (.bool (bs.all id))) := by rw [cAll, boolsD_of]; rfl
theorem cAny_of (bs : List Bool) : cAny [.list (bs.map .bool)] = some (.pur (.bool (bs.any id))) := by rw [cAny, boolsD_of]; rfl
end
end IX

/-! text IX35 -/
set_option maxHeartbeats 1000000
/-! repr is told for small data. -/
namespace IX
open PySem PySem.Spec PyProof.Rows L2
mutual
/-- whole numbers below 2 ** n in absolute value, texts of characters, lists and tuples of these -/
def sm (n : Nat) : PyData → Bool
  | .none => true
  | .bool _ => true
  | .int i => decide (i.natAbs < 2 ^ n)
  | .str x => x.cps.toList.all fun c => decide (c < 4294967296)
  | .list xs => smA n xs
  | .tuple xs => smA n xs
  | .dict _ => false
def smA (n : Nat) : List PyData → Bool
  | [] => true
  | x :: xs => sm n x && smA n xs
end
theorem log2_lt_of {m n : Nat} (h : m < 2 ^ n) (hn : 0 < n) : m.log2 < n := by
  by_cases z : m = 0
  · subst z; rw [Nat.log2_zero]; exact hn
  · exact (Nat.log2_lt z).mpr h
mutual
theorem sm_ok {n : Nat} (hn : 0 < n) (h1 : n ≤ 1900) : ∀ d : PyData, sm n d = true → d.showable = true ∧ d.hasDict = false ∧ d.leavesShort (n + 9) = true
  | .none, _ => ⟨by simp [PyData.showable], by simp [PyData.hasDict], by simp [PyData.leavesShort]⟩
  | .bool _, _ => ⟨by simp [PyData.showable], by simp [PyData.hasDict], by simp [PyData.leavesShort]⟩
  | .int i, h => by
    rw [sm, decide_eq_true_eq] at h
    have h2 := log2_lt_of h hn
    refine ⟨by rw [PyData.showable, decide_eq_true_eq]; omega, by simp [PyData.hasDict], ?_⟩
    rw [PyData.leavesShort, decide_eq_true_eq, PyData.shown]
    have h3 := int_text_length_le hn h2
    have h4 := PySem.ofString_length (toString i)
    show (Str.ofString (toString i)).length ≤ _
    omega
  | .str x, h => by
    rw [sm] at h
    exact ⟨by simp [PyData.showable], by simp [PyData.hasDict], by rw [PyData.leavesShort]; simpa using h⟩
  | .list xs, h => by
    rw [sm] at h
    obtain ⟨a, b, c⟩ := smA_ok hn h1 xs h
    exact ⟨by rw [PyData.showable]; exact a, by rw [PyData.hasDict]; exact b, by rw [PyData.leavesShort]; exact c⟩
  | .tuple xs, h => by
    rw [sm] at h
    obtain ⟨a, b, c⟩ := smA_ok hn h1 xs h
    exact ⟨by rw [PyData.showable]; exact a, by rw [PyData.hasDict]; exact b, by rw [PyData.leavesShort]; exact c⟩
  | .dict _, h => by rw [sm] at h; cases h
theorem smA_ok {n : Nat} (hn : 0 < n) (h1 : n ≤ 1900) : ∀ xs : List PyData, smA n xs = true → PyData.showableAll xs = true ∧ PyData.hasDictAll xs = false ∧ PyData.leavesShortAll (n + 9) xs = true
  | [], _ => ⟨by rw [PyData.showableAll], by rw [PyData.hasDictAll], by rw [PyData.leavesShortAll]⟩
  | x :: xs, h => by
    rw [smA, Bool.and_eq_true] at h
    obtain ⟨a, b, c⟩ := sm_ok hn h1 x h.1
    obtain ⟨a2, b2, c2⟩ := smA_ok hn h1 xs h.2
    exact ⟨by rw [PyData.showableAll, a, a2]; rfl, by rw [PyData.hasDictAll, b, b2]; rfl, by rw [PyData.leavesShortAll, c, c2]; rfl⟩
end
theorem showOk_of {n : Nat} {d : PyData} (hn : 0 < n) (h1 : n ≤ 1900) (h : sm n d = true) (hb : (n + 11) * d.bulk + n + 9 ≤ 16777216) (hd : d.depth ≤ 60) : showOk d = true := by
  obtain ⟨a, b, c⟩ := sm_ok hn h1 d h
  have l := PyData.shown_le_bulk (n + 9) (by omega) d c
  unfold showOk
  rw [a, b]
  simp only [Bool.not_false, Bool.and_self, Bool.true_and, Bool.and_eq_true, decide_eq_true_eq]
  refine ⟨?_, hd⟩
  have e : n + 9 + 2 = n + 11 := by omega
  rw [e] at l
  omega
theorem smA_mem {n : Nat} : ∀ {xs : List PyData}, (∀ x ∈ xs, sm n x = true) → smA n xs = true
  | [], _ => by rw [smA]
  | x :: xs, h => by rw [smA, h x (by simp), smA_mem fun y hy => h y (by simp [hy])]; rfl
theorem bulkA_le {k : Nat} : ∀ {xs : List PyData}, (∀ x ∈ xs, x.bulk + 1 ≤ k) → PyData.bulkAll xs ≤ k * xs.length
  | [], _ => by rw [PyData.bulkAll]; omega
  | x :: xs, h => by
    rw [PyData.bulkAll, List.length_cons, Nat.mul_succ]
    have := h x (by simp)
    have := bulkA_le (k := k) (xs := xs) fun y hy => h y (by simp [hy])
    omega
theorem depthA_le {k : Nat} : ∀ {xs : List PyData}, (∀ x ∈ xs, x.depth ≤ k) → PyData.depthAll xs ≤ k
  | [], _ => by rw [PyData.depthAll]; omega
  | x :: xs, h => by
    rw [PyData.depthAll]
    have := h x (by simp)
    have := depthA_le (k := k) (xs := xs) fun y hy => h y (by simp [hy])
    omega
theorem neStr (z : Str) : opNe (.str z) (.str z) = some (.pur (.bool false)) := by
  unfold opNe orF fNe1
  simp [scalD, PyData.eqv]
theorem eqStr (z : Str) : opEq (.str z) (.str z) = some (.pur (.bool true)) := by
  unfold opEq orF fEq1
  simp [scalD, PyData.eqv]
end IX

/-! text IX36 -/
set_option maxHeartbeats 2000000
/-! The own exceptions: class X(LineError) with __init__(self, value): super().__init__(text); self.value = value. -/
namespace IX
open PySem PySem.Spec PyProof.Rows L2
/-- the text of such an __init__ -/
abbrev xcBody (z : Str) (j : Nat) (q0 q1 q2 q3 q4 q5 r0 r1 r2 r3 : Pos) : List Stmt := [.Expr (.Call (.Attribute (.Call (.Name "super" q0) [] [] q1) "__init__" q2) [.Constant (.str z) j q3] [] q4) q5, .Assign [.Attribute (.Name "self" r0) "value" r1] (.Name "value" r2) r3]
abbrev xcPar (p1 p2 : Pos) : Arguments := ⟨[], [⟨"self", none, p1⟩, ⟨"value", none, p2⟩], none, [], [], none, []⟩
abbrev xcFn (qual : Str) (b : List Stmt) (pr : Arguments) (sc : Scope) (kV doc pm : Value) (an : Option Addr) (cda : Addr) (ct : Value) (cc : Addr) : FuncData :=
  PySem.W.ksFn "__init__" qual pr b sc .none kV doc pm an (.ref cda) ct cc
/-- what a class of these must be -/
structure XcC (K : PySem.W.Frag) (fl : Str) (C : Addr) : Prop where
  o : OexC K C
  ex : ∃ (fI cc cda : Addr) (qual z : Str) (j : Nat) (q0 q1 q2 q3 q4 q5 r0 r1 r2 r3 p1 p2 : Pos) (sc : Scope) (kV doc pm ct oc cl ccl : Value) (an od cld cdd : Option Addr) (osl csl ccs : Array (Option Value)) (vs : Array Value) (tf : Tok) (cd : ClassData),
    PySem.W.findIn K (.ref C) "__init__" = some (some (.ref fI)) ∧ PySem.W.typeIn K (.ref fI) = some (.type "function") ∧
    K.lookup fI = some ⟨oc, od, .func (xcFn qual (xcBody z j q0 q1 q2 q3 q4 q5 r0 r1 r2 r3) (xcPar p1 p2) sc kV doc pm an cda ct cc), osl⟩ ∧ PySem.W.codeIn K (.ref cda) qual = true ∧
    (q2.endLine == q4.line) = true ∧ sc.kind = .function ∧ sc.isCoroutine = false ∧ sc.isGenerator = false ∧ (sc.names.all fun x => x.2 != .cell) = true ∧ sc.names.lookup ("super" : Str) = some .globalImplicit ∧ sc.names.lookup ("__class__" : Str) = some .free ∧ sc.names.lookup ("self" : Str) = some .local ∧ sc.names.lookup ("value" : Str) = some .local ∧
    K.lookup cda = some ⟨ccl, cdd, .fields vs, ccs⟩ ∧ vs[2]? = some (.str fl tf) ∧ K.lookup cc = some ⟨cl, cld, .cell (some (.ref C)), csl⟩ ∧
    PySem.W.clsIn K C = some cd ∧ PySem.W.alongIn K "__init__" ((cd.mro.dropWhile (· != .ref C)).drop 1) = some (some (.builtin "ValueError.__init__"))
  self : PySem.W.mroIn K C (.ref C) = some true
  ve : PySem.W.subIn K (.ref C) (.type "ValueError") = some true
  op : PySem.W.nsIn K cStatics "thirdparty.any" = some none
  val : PySem.W.findIn K (.ref C) "value" = some none
section
variable {prog : Program} {w : World} {A : Around} {E : Value → Shared → Prop} {h : Heap} {g : Array GenState} {d : Drawn} {t : Nat} {os : OsState}
/-- ValueError.__init__ as it is bound to e, called -/
theorem call_mw {nm q : Str} {C N u e t0 : Addr} {bs bm : List Value} {hdct : Bool} {sn : List Str} {sub : List Value} {ab : Bool} {col : Option Bool} {dd : Option Addr} {k0 k1 k2 k3 k5 : Option Value} {rest : List Value} {Q : Value → Shared → Prop}
    (hC : h.get? C = some (excClassObj nm q C N bs bm hdct sn sub ab col dd k0 k1 k2 k3 k5 "ValueError.__new__"))
    (he : h.get? e = some (HandSPX.excO C t0)) (hu : h.get? u = some (PySem.W.kxs_mw "ValueError.__init__" e)) (hz : rest.length ≤ sizeLine)
    (go : ∀ h' t1, (∀ b o, b ≠ e → h.get? b = some o → h'.get? b = some o) → h'.get? e = some (HandSPX.excO C t1) → Q .none ⟨h', g, d, t, os⟩) : wpAny (model prog w) A (PySem.call (.ref u) rest) Q E ⟨h, g, d, t, os⟩ := by
  refine wpAny_call (codeAny_of_tree (?_ : wpAny (model prog w) A.in1 (callAny (.ref u) ⟨rest, []⟩) _ _ _))
  simp only [callAny]
  refine wpAny_bind (wpAny_load hu ?_)
  have k1 : (Value.type "method-wrapper" == Value.type "method" || Value.type "method-wrapper" == Value.type "builtin_function_or_method" || Value.type "method-wrapper" == Value.type "method-wrapper") = true := by decide
  simp only [PySem.W.kxs_mw, k1, if_true]
  refine PySem.W.KFB.if_so (by decide) (wpAny_bind (PySem.W.check_bound_init F.excBase_ValueError.toExcCallFacts hC he rfl (wpAny_bind (wpAny_pure (wpAny_pure ⟨plainId_quiet F.excBase_ValueError.init.plain _, codeAny_builtin F.excBase_ValueError.initEntry ?_⟩)))))
  exact PySem.W.exc_init_tree (cls := .ref C) (t0 := t0) (dv := none) (c2 := .none) (c3 := .none) (b4 := .bool false) he hz fun h' k e' _ => go h' _ k e'
theorem sup_call {z : Str} {j : Nat} {q0 q1 q2 q3 q4 : Pos} (env : Env) (hq : (q2.endLine == q4.line) = true) : eval (.Call (.Attribute (.Call (.Name "super" q0) [] [] q1) "__init__" q2) [.Constant (.str z) j q3] [] q4) env = (do
    let ov ← attributeBase (.Call (.Name "super" q0) [] [] q1) "__init__" env (eval (.Call (.Name "super" q0) [] [] q1) env)
    standAt q2.atName
    let (f, first) ← holding [ov] (getMethod ov "__init__" (do return (← importBound (.Call (.Name "super" q0) [] [] q1) env).getD true))
    callWith q4 f first (backTo q4 (starEach [.Constant (.str z) j q3] env)) []) := by
  have e : methodCallPos true (.Call (.Name "super" q0) [] [] q1) env q2 q4 = pure q4 := by
    unfold methodCallPos
    rw [hq]; rfl
  show (do
    let ov ← attributeBase (.Call (.Name "super" q0) [] [] q1) "__init__" env (eval (.Call (.Name "super" q0) [] [] q1) env)
    standAt q2.atName
    let (f, first) ← holding [ov] (getMethod ov "__init__" (do return (← importBound (.Call (.Name "super" q0) [] [] q1) env).getD true))
    let callPos ← methodCallPos true (.Call (.Name "super" q0) [] [] q1) env q2 q4
    callWith callPos f first (backTo q4 (starEach [.Constant (.str z) j q3] env)) []) = _
  simp only [e, pure_bind]
theorem bool_ne {k : NameKind} (h : (k != .cell) = true) : k ≠ .cell := fun e => by subst e; revert h; decide
/-- __init__, called for a new object: the object has a dict then, with the value -/
theorem xc_init {K : PySem.W.Frag} {fl : Str} {C : Addr} (T : XcC K fl C) (pf : ((prog.main.file : Str) == fl) = true) (pt : (prog.main.scope.names.lookup ("super" : Str)).isSome = false) :
    ∃ fI : Addr, PySem.W.findIn K (.ref C) "__init__" = some (some (.ref fI)) ∧ PySem.W.typeIn K (.ref fI) = some (.type "function") ∧
    ∀ (A : Around) (h : Heap) (g : Array GenState) (d : Drawn) (t : Nat) (os : OsState) (mg mb : Str → Option Value) (x t0 : Addr) (v : Value) (args : Args) (R : Result → Shared → Prop),
      K.In h → K.lookup x = none → h.NoLimit → h.Ns mainGlobals mg → mg ("super" : Str) = none → h.Ns builtinsNs mb → mb ("super" : Str) = some (.type "super") → A.depth < recursionLimit → h.get? x = some (HandSPX.excO C t0) → (args = ⟨[.ref x, v], []⟩ ∨ args = ⟨[.ref x], [("value", v)]⟩) →
      (∀ h' tk dx t1, (∀ b o, b ≠ x → h.get? b = some o → h'.get? b = some o) → h.objs.size ≤ dx → dx ≠ x → h'.get? x = some { cls := .ref C, dict := some dx, data := .fields #[.ref t1, .none, .none, .none, .bool false, .none] } → h'.Ns1 dx (fun y => if y = ("value" : Str) then some v else none) → R (.ok (.ret .none)) ⟨h', g, d, tk, os⟩) →
      codeAny (model prog w) A (.call (.ref fI) args) R ⟨h, g, d, t, os⟩ := by
  obtain ⟨fI, cc, cda, qual, z, j, q0, q1, q2, q3, q4, q5, r0, r1, r2, r3, p1, p2, sc, kV, doc, pm, ct, oc, cl, ccl, an, od, cld, cdd, osl, csl, ccs, vs, tf, cd, e1, e2, e3, e4, e0, e5, e6, e7, e8, e9, e10, e11, e12, e13, e14, e15, e16, e17⟩ := T.ex
  obtain ⟨nm, qn, Nn, bs, bm, sn, sub, ab, col, dd, k0, k1, k2, k3, k5, hC, hbm⟩ := T.o.cls
  obtain ⟨sk, scn, sg, sco, smo⟩ := sc
  dsimp only at e5 e6 e7 e8 e9 e10 e11 e12
  subst e5 e6 e7
  have ncell : ∀ y ∈ scn, y.2 ≠ .cell := fun y hy => bool_ne (List.all_eq_true.mp e8 y hy)
  refine ⟨fI, e1, e2, fun A h g d t os mg mb x t0 v args R X xK lim hns msup hb bsup room hx ha go => ?_⟩
  have cls : PySem.W.clsIn K C = some { name := nm, bases := bs, mro := .ref C :: bm, ns := Nn, qualname := qn, hasDict := true, slotNames := sn, subclasses := sub, abstract := ab, collection := col, hasDel := false } := by unfold PySem.W.clsIn; rw [hC] <;> rfl
  have ecd := cls.symm.trans e16
  cases ecd
  refine PySem.ks_codeAny_call_defAt (fd := xcFn qual (xcBody z j q0 q1 q2 q3 q4 q5 r0 r1 r2 r3) (xcPar p1 p2) ⟨.function, scn, false, false, smo⟩ kV doc pm an cda ct cc) (body := xcBody z j q0 q1 q2 q3 q4 q5 r0 r1 r2 r3) (binds := [("self", .ref x), ("value", v)]) room (X _ _ e3) rfl lim (PySem.W.codeRec_of X e4) rfl ?_ ncell ?_ (fun h1 ns1 up1 => ?_) rfl rfl rfl
  · rcases ha with rfl | rfl
    · exact .of_eq rfl
    · exact .of_eq rfl
  · intro y hy
    rcases List.mem_cons.mp hy with rfl | hy
    · exact e11
    · rw [List.mem_singleton] at hy; subst hy; exact e12
  have X1 : K.In h1 := X.keeps up1
  have vself : ([(("self" : Str), (Value.ref x)), (("value" : Str), v)].reverse.lookup ("self" : Str)) = some (.ref x) := rfl
  have vval : ([(("self" : Str), (Value.ref x)), (("value" : Str), v)].reverse.lookup ("value" : Str)) = some v := rfl
  have hx1 := up1 _ _ hx
  have Ix : PySem.W.InstAt h1 x (HandSPX.excO C t0) C none := ⟨hx1, rfl, rfl, trivial⟩
  have xC := PySem.W.ks_ne X1 Ix cls
  have sub1 : PySem.W.Looks (model prog w) h1 (isSubtype (.ref C) (.ref C)) true := PySem.W.looks_mroIn X1 T.self
  -- super().__init__(..)
  refine PySem.ks_wpAt_execs_cons (PySem.ks_wpAt_Expr_any (PySem.ks_wpAt_MethodCall ?_ (sup_call _ e0)))
  refine PySem.ks_wpAt_super_base e9 e10 (by decide) rfl (X1 _ _ e3) rfl rfl rfl (X1 _ _ e13) rfl e14 pf pt ?_
  refine PySem.W.ks_loadName_global rfl e9 (Calls.loadGlobal_builtin (hns.keeps up1) msup (hb.keeps up1) bsup ⟨rfl, ?_⟩)
  refine wpAny_loadName_free rfl e10 rfl ⟨_, X1 _ _ e15, rfl⟩ ?_
  refine wpAny_loadName_local rfl e11 ns1 vself ?_
  refine PySem.ks_wpAny_isType_cls (X1 _ _ hC) rfl ⟨rfl, ?_⟩
  refine PySem.ks_wpAny_call_super (X1 _ _ hC) rfl hx1 rfl (fun c z => nomatch z) sub1 fun h2 so2 up2 => ?_
  have X2 : K.In h2 := X1.keeps up2
  have hx2 := up2 _ _ hx1
  have hI2 : PySem.W.Looks (model prog w) h2 (isInstance (.ref x) (.type "ValueError")) true := (⟨hx2, rfl, rfl, trivial⟩ : PySem.W.InstAt h2 x (HandSPX.excO C t0) C none).type.andThen (PySem.W.looks_subIn X2 T.ve)
  refine PySem.W.kxs_getMethod PySem.W.kxs_ValueError so2 (PySem.W.looks_opaque X2 T.op) ((PySem.W.looks_clsIn X2 cls).andThen .now) rfl X2 e17 hI2 xC (by decide) ?_
  have up3 : ∀ b o, h2.get? b = some o → (h2.push (PySem.W.kxs_mw "ValueError.__init__" x)).get? b = some o := fun b o z => Heap.get?_push_of_some _ z
  have hu3 : (h2.push (PySem.W.kxs_mw "ValueError.__init__" x)).get? h2.objs.size = some (PySem.W.kxs_mw "ValueError.__init__" x) := Heap.get?_push_size _ rfl
  refine PySem.W.kxs_callWith (i := "ValueError.__init__") (x := x) rfl (Calls.evalArgs_plain (Calls.spliced_cons (Calls.Constant_str (k := j) (pos := q3) (Calls.spliced_nil ⟨hu3, ?_⟩))))
  refine call_mw (X2.keeps up3 _ _ hC) (up3 _ _ hx2) hu3 (by rw [sizeLine_eq]; show 1 ≤ 16777216; decide) fun h4 t1 up4 hx4 => ?_
  -- self.value = value
  have xL : h.objs.size ≠ x := Nat.ne_of_gt (Heap.lt_size hx)
  have up3' : ∀ b o, h1.get? b = some o → (h2.push (PySem.W.kxs_mw "ValueError.__init__" x)).get? b = some o := fun b o z => up3 b o (up2 b o z)
  have ns4 : h4.Ns h.objs.size (fun y => [(("self" : Str), (Value.ref x)), (("value" : Str), v)].reverse.lookup y) := by
    obtain ⟨o, es, n, a1, a2, a3⟩ := ns1
    exact ⟨o, es, n, up4 _ _ xL (up3' _ _ a1), a2, a3⟩
  have X4 : K.In h4 := fun b o z => by
    by_cases bx : b = x
    · subst bx
      have z : K.lookup b = some o := z
      rw [xK] at z
      cases z
    · exact up4 b o bx (up3' b o (X1 b o z))
  refine PySem.ks_wpAt_execs_cons (PySem.ks_wpAt_Assign_Attr (wpAt_of_wpAny (wpAny_Name (wpAny_loadName_local rfl e12 ns4 vval (wpAny_Name (wpAny_loadName_local rfl e11 ns4 vself ?_) (by decide))) (by decide))))
  refine PySem.W.set_plain X4 (ox := HandSPX.excO C t1) (od := none) ⟨hx4, rfl, rfl, trivial⟩ T.o.sa ?_
  refine HandSPX.exc_osa X4 hx4 cls (show HandSPX.refsVE (.ref C :: bm) = true from hbm) rfl T.val fun h' tk' dx k5' dn dne hx' hn' => ?_
  have from0 : ∀ b o, b ≠ x → h.get? b = some o → h4.get? b = some o := fun b o bx z => up4 b o bx (up3' b o (up1 b o z))
  have big : h.objs.size ≤ h4.objs.size := by
    obtain ⟨o, es, n, a1, a2, a3⟩ := ns4
    exact Nat.le_of_lt (Heap.lt_size a1)
  exact wpAt_of_wpAny (wpAny_execs_nil (go h' tk' dx t1 (fun b o bx z => k5' b o bx (from0 b o bx z)) (Nat.le_trans big dn) dne hx' hn'))
end
section
variable {X : Cx} {fl : Str} {C : Addr} {x : Str} {p pos : Pos} {e : Expr} {te : TE}
/-- what making such an exception leaves -/
theorem xc_made (T : XcC X.K fl C) (pf : ((X.prog.main.file : Str) == fl) = true) (pt : (X.prog.main.scope.names.lookup ("super" : Str)).isSome = false) (sup : X.mg ("super" : Str) = none) {k : Nat} (hr : Room (k + 1) X.A) {pins : List (Addr × Obj)} {σ : L2.St} {H1 : Hp} {s1 : Shared} {v : V} {u : Value} (I1 : Inv X pins σ H1 s1) (rv : RelV v u)
    {R : Value → Shared → Prop} {E : Value → Shared → Prop}
    (go : ∀ (a dx t1 : Addr) (G h2 : Heap) (tk : Nat), H1 dx = none → H1 a = none → dx ≠ a → Inv X pins σ (upd H1 dx (.xd [("value", v)])) { s1 with heap := G, toks := tk } → (∀ b o, G.get? b = some o → h2.get? b = some o) → G.get? a = none → h2.get? a = some { cls := .ref C, dict := some dx, data := .fields #[.ref t1, .none, .none, .none, .bool false, .none] } →
      R (.ref a) { s1 with heap := h2, toks := tk }) :
    wpAny (model X.prog X.w) X.A (PySem.call (.ref C) [u]) R E s1 := by
  obtain ⟨fI, init, tyI, run⟩ := xc_init (w := X.w) T pf pt
  obtain ⟨nm, qn, Nn, bs, bm, sn, sub, ab, col, dd, k0, k1, k2, k3, k5, hC, hbm⟩ := T.o.cls
  obtain ⟨hp, g, d, t, os⟩ := s1
  obtain ⟨mb, bns, bb⟩ := I1.mod.blt
  have KIn : X.K.In hp := I1.kIn
  let h1 : Heap := (hp.push (PySem.W.kdv_tup [u])).push (HandSPX.excO C hp.objs.size)
  have up : ∀ b o, hp.get? b = some o → h1.get? b = some o := fun b o z => Heap.get?_push_of_some _ (Heap.get?_push_of_some _ z)
  have at_ : h1.get? (hp.objs.size + 1) = some (HandSPX.excO C hp.objs.size) := by show ((hp.push (PySem.W.kdv_tup [u])).push (HandSPX.excO C hp.objs.size)).get? _ = _; heap_get
  have fresh : ∀ {b : Addr}, hp.objs.size ≤ b → H1 b = none := fun z => I1.hok.fresh z
  have nK : X.K.lookup (hp.objs.size + 1) = none := by
    cases z : X.K.lookup (hp.objs.size + 1) with
    | none => rfl
    | some o => exact absurd (Heap.lt_size (KIn _ _ z)) (by show ¬ hp.objs.size + 1 < hp.objs.size; omega)
  refine wpAny_call (HandSPX.call_own F.excBase_ValueError (fun Y => HandSPX.refsVE_contains Y bm hbm) (KIn _ _ hC) (PySem.W.looks_findIn KIn init) (fun self => PySem.W.bind_fn KIn self tyI) (by rw [sizeLine_eq]; show 1 ≤ 16777216; decide) ?_)
  refine run _ h1 g d t os X.mg mb (hp.objs.size + 1) hp.objs.size u _ _ (KIn.keeps up) nK (I1.nolimit.keeps up) ((I1.mod.glob.keeps I1.bk).keeps up) sup ((bns.keeps I1.bk).keeps up) ((bb _ (by decide)).trans (by decide +kernel)) (hr.make C [u] []).depth at_ (.inl rfl) fun h2 tk dx t1 k2 dn dne hx hn => ?_
  have far : hp.objs.size ≤ dx := by
    have : h1.objs.size = hp.objs.size + 2 := by show (((hp.push _).push _).objs.size) = _; rw [Heap.size_push, Heap.size_push]
    omega
  obtain ⟨G, g1, g2⟩ := restrict h2 fun b => decide (b ≠ hp.objs.size + 1)
  have gk : ∀ b, b ≠ hp.objs.size + 1 → G.get? b = h2.get? b := fun b hb => g1 b (decide_eq_true hb)
  have keep : ∀ b o, hp.get? b = some o → G.get? b = some o := fun b o z => by
    have nb : b ≠ hp.objs.size + 1 := Nat.ne_of_lt (Nat.lt_of_lt_of_le (Heap.lt_size z) (Nat.le_succ _))
    rw [gk b nb]
    exact k2 b o nb (up b o z)
  have lay : Inv X pins σ (upd H1 dx (.xd [("value", v)])) { (⟨hp, g, d, t, os⟩ : Shared) with heap := G, toks := tk } := I1.laid (t' := tk) (a := dx) (o := .xd [("value", v)]) keep far ⟨_, hn.at fun o y => (gk dx dne).trans y, fun f => by
    show RelO ([(("value" : Str), v)].lookup f) (if f = ("value" : Str) then some u else none)
    by_cases z : f = ("value" : Str)
    · subst z; exact rv
    · rw [if_neg z]
      have : ([(("value" : Str), v)].lookup f) = none := by
        rw [List.lookup_cons]
        have : (f == ("value" : Str)) = false := by simpa using z
        rw [this]; rfl
      rw [this]; trivial⟩
  refine ⟨rfl, ?_⟩
  exact go (hp.objs.size + 1) dx t1 G h2 tk (fresh far) (fresh (Nat.le_succ _)) dne lay (fun b o z => by
    by_cases hb : b = hp.objs.size + 1
    · rw [hb, g2 _ (by simp)] at z; cases z
    · rw [← gk b hb]; exact z) (g2 _ (by simp)) hx
end
end IX

/-! text IX37 -/
set_option maxHeartbeats 2000000
/-! Exceptions in the value layer: what raises, told as a result of its own kind; defs, calls and statements that may raise. -/
namespace IX
open PySem PySem.Spec PyProof.Rows L2
variable [KC]
/-- an exception, as a result -/
def Slot.exc : Slot → Option (Str × PyData)
  | .ext _ 5 (.dict [(.none, .tuple [.str c, d])]) => some (c, d)
  | _ => none
abbrev exR (c : Str) (d : PyData) : Slot := .ext false 5 (exS c d)
theorem exc_some {r : Slot} {p : Str × PyData} (h : r.exc = some p) : ∃ b, r = .ext b 5 (exS p.1 p.2) := by
  unfold Slot.exc at h
  split at h
  · cases h; exact ⟨_, rfl⟩
  · cases h
@[simp] theorem exc_exR {c : Str} {d : PyData} : (exR c d).exc = some (c, d) := rfl
@[simp] theorem exc_pur {d : PyData} : (Slot.pur d).exc = none := rfl
@[simp] theorem exc_own {b : Bool} {ds : List PyData} : (Slot.own b ds).exc = none := rfl
/-- how a result ends: the value, or the exception -/
def endR (r : Slot) (v : V) (Q : Prop) (W : Value → Option Addr → Prop) : Prop := match r.exc with
  | none => Q
  | some p => ∀ dx, v = .ref dx → W (excA p.1) (some dx)
theorem endR_none {r : Slot} {v : V} {Q : Prop} {W : Value → Option Addr → Prop} (h : r.exc = none) : endR r v Q W = Q := by unfold endR; rw [h]
theorem endR_some {r : Slot} {p : Str × PyData} {v : V} {Q : Prop} {W : Value → Option Addr → Prop} (h : r.exc = some p) : endR r v Q W = ∀ dx, v = .ref dx → W (excA p.1) (some dx) := by unfold endR; rw [h]
section
variable (E : ExtK) (fr : Fra)
def OutW (W : WX) (F : Hp) (D : Ends) : Out → Prop
  | .nxt e => ∀ F' H' ow' σ', Rel E fr F' H' ow' e σ' → Ex F F' → D.nx σ' H'
  | .brk e => ∀ F' H' ow' σ', Rel E fr F' H' ow' e σ' → Ex F F' → D.bk σ' H'
  | .cnt e => ∀ F' H' ow' σ', Rel E fr F' H' ow' e σ' → Ex F F' → D.ct σ' H'
  | .ret r e => ∀ v F' H' ow' σ' H0 ow0, Rel E fr F' H' ow' e σ' → Ex F F' → Res E fr H0 ow0 F' H' ow' v r → endR r v (D.rt v H') fun c d => W c d σ' H'
def TSw (W : WX) (x : EvS) : TS := fun D σ H => ∃ F ow env o, Rel E fr F H ow env σ ∧ x env = some o ∧ OutW E fr W F D o
def TQW (W : WX) (ev : EvE) : TE := fun σ H Q => ∃ F ow env r env', Rel E fr F H ow env σ ∧ ev env = some (r, env') ∧
  ∀ v F' H' ow', Rel E fr F' H' ow' env' σ → Grow F H ow F' H' ow' → Res E fr H ow F' H' ow' v r → endR r v (Q v H') fun c d => W c d σ H'
end
structure RS (E : ExtK) (W : WX) (X : Cx) (st : Stmt) (x : EvS) : Prop where
  ps : ∀ fr, PS X st (TSw E fr W x)
structure RSs (E : ExtK) (W : WX) (X : Cx) (st : List Stmt) (x : EvS) : Prop where
  ps : ∀ fr, PSs X st (TSw E fr W x)
structure RE (E : ExtK) (W : WX) (X : Cx) (e : Expr) (ev : EvE) : Prop where
  pe : ∀ fr, PE X e (TQW E fr W ev)
def xOk (x : EvS) : EvS := fun env => match x env with
  | some (.ret r e) => if r.exc.isNone = true then some (.ret r e) else none
  | o => o
section
variable {E : ExtK} {W : WX} {X : Cx} [KX X] {fr : Fra} {F F' : Hp} {D : Ends} {o : Out} {st : Stmt} {sts : List Stmt} {x y : EvS} {e c : Expr} {es : List Expr} {pos pos' p : Pos} {ev : EvE}
theorem OutW.mono (h : OutW E fr W F D o) (f : Ex F F') : OutW E fr W F' D o := by
  cases o with
  | nxt e => exact fun F2 H' ow' σ' R g => h F2 H' ow' σ' R (f.tr g)
  | brk e => exact fun F2 H' ow' σ' R g => h F2 H' ow' σ' R (f.tr g)
  | cnt e => exact fun F2 H' ow' σ' R g => h F2 H' ow' σ' R (f.tr g)
  | ret r e => exact fun v F2 H' ow' σ' H0 ow0 R g => h v F2 H' ow' σ' H0 ow0 R (f.tr g)
theorem okW {F : Hp} {env : SEnv} {σ : L2.St} {H : Hp} (h : TSw E fr W (xOk x) D σ H) : TSv E fr x D σ H := by
  obtain ⟨F, ow, env, o, R, ee, k⟩ := h
  unfold xOk at ee
  split at ee
  · rename_i r e1 hx
    split at ee
    · rename_i z
      cases ee
      refine ⟨F, ow, env, _, R, hx, fun v F' H' ow' σ' H0 ow0 R' f rs => ?_⟩
      have := k v F' H' ow' σ' H0 ow0 R' f rs
      rwa [endR_none (Option.isNone_iff_eq_none.mp z)] at this
    · cases ee
  · rename_i n
    refine ⟨F, ow, env, o, R, ee, ?_⟩
    cases o with
    | nxt e => exact k
    | brk e => exact k
    | cnt e => exact k
    | ret r e => exact absurd ee (n r e)
theorem rs_of (h : SS E X st x) : RS E W X st (xOk x) := ⟨fun fr => (h.ps fr).weak fun D σ H z => okW (F := fun _ => none) (env := []) z⟩
theorem rss_nil : RSs E W X [] xNil := ⟨fun fr => pss_nil.weak fun D σ H ⟨F, ow, env, o, R, ee, k⟩ => by
  cases ee
  exact k F H ow σ R (Ex.refl _)⟩
theorem rss_cons (h1 : RS E W X st x) (h2 : RSs E W X sts y) : RSs E W X (st :: sts) (xSeq x y) := ⟨fun fr => (pss_cons (h1.ps fr) (h2.ps fr)).weak fun D σ H ⟨F, ow, env, o, R, ee, k⟩ => by
  unfold xSeq at ee
  split at ee
  · rename_i e1 h
    refine ⟨F, ow, env, _, R, h, fun F' H' ow' σ' R' f => ⟨F', ow', e1, o, R', ee, k.mono f⟩⟩
  · rename_i n
    cases o with
    | nxt e => exact absurd ee (n e)
    | brk e => exact ⟨F, ow, env, _, R, ee, k⟩
    | cnt e => exact ⟨F, ow, env, _, R, ee, k⟩
    | ret r e => exact ⟨F, ow, env, _, R, ee, k⟩⟩
theorem rss_one (h1 : RS E W X st x) : RSs E W X [st] x := ⟨fun fr => pss_one (h1.ps fr)⟩
theorem rs_if {q : Bool} {t : EvT} {as bs : List Stmt} (ht : ST E X c q t) (ha : RSs E W X as x) (hb : RSs E W X bs y) : RS E W X (.If c as bs pos) (xIf t x y) := ⟨fun fr => (ps_if (ht.pt fr) (ha.ps fr) (hb.ps fr)).weak fun D σ H ⟨F, ow, env, o, R, ee, k⟩ => by
  obtain ⟨⟨c, e1⟩, h1, h⟩ := bind2 ee
  refine ⟨F, ow, env, c, e1, R, h1, fun F' H' ow' R' g hq => ?_⟩
  cases c with
  | true => exact iteT ⟨F', ow', e1, o, R', h, k.mono g.f⟩
  | false => exact iteF ⟨F', ow', e1, o, R', h, k.mono g.f⟩⟩
theorem rs_for {tg iter : Expr} {body : List Stmt} {q : Bool} {it : EvA} {ts : List Nat} {g : PyData → SEnv → Option SEnv} (hp : PassesOwn (model X.prog X.w) X.A X.env X.xe) (hc : X.calm = true) (hi : SI E X tg iter q it) (hg : SG E X tg ts g) (hb : RSs E W X body x)
    (hs : ∀ x, foldedSetIterable iter X.env x = pure x := by intro _; rfl) : RS E W X (.For tg iter body [] pos) (xFor it g x) := ⟨fun fr => (ps_for hp hc (hi.pi fr) (hg.pg fr) (hb.ps fr) hs).weak fun D σ H ⟨F, ow, env, o, R, ee, k⟩ => by
  obtain ⟨⟨ds, e1⟩, h1, h⟩ := bind2 ee
  refine ⟨F, ow, env, ds, e1, R, h1, fun J F1 H1 ow1 R1 g1 hq wk => ?_⟩
  refine ⟨fun i m σ2 H2 => m = ds.length - i ∧ i ≤ ds.length ∧ ∃ F2 ow2 e2, Rel E fr F2 H2 ow2 e2 σ2 ∧ Ex F1 F2 ∧ forL g x (ds.drop i) e2 = some o, ⟨ds.length, by simp, Nat.zero_le _, F1, ow1, e1, R1, Ex.refl _, by simpa using h⟩, ?_⟩
  rintro i m σ2 H2 ⟨rfl, hle, F2, ow2, e2, R2, f2, h2⟩
  obtain ⟨w1, w2⟩ := wk i F2 H2 f2 R2.fh
  by_cases hlt : i < ds.length
  · obtain ⟨d, hd⟩ : ∃ d, ds[i]? = some d := ⟨ds[i], by simp [hlt]⟩
    have hdrop : ds.drop i = d :: ds.drop (i + 1) := by
      rw [List.drop_eq_getElem_cons hlt]
      congr 1
      simpa [hlt] using hd
    rw [hdrop, forL] at h2
    obtain ⟨go, yl⟩ := w1 d hd
    refine .inr ⟨go, fun σ3 H3 => ∃ F3 ow3 e3, Rel E fr F3 H3 ow3 e3 σ3 ∧ Ex F1 F3 ∧ forL g x (ds.drop (i + 1)) e3 = some o, fun σ3 H3 ⟨F3, ow3, e3, R3, f3, h3⟩ => ⟨ds.length - (i + 1), by omega, rfl, hlt, F3, ow3, e3, R3, f3, h3⟩, fun y H3 hy => ?_⟩
    obtain ⟨F3, al, ry⟩ := yl y H3 hy
    have R3 := R2.alloc al
    cases hg' : g d e2 with
    | none => rw [hg'] at h2; cases h2
    | some e3 =>
      rw [hg'] at h2
      dsimp only at h2
      refine ⟨F3, ow2, e2, d, e3, R3, ry, hg', fun F4 H4 ow4 σ4 R4 g4 _ => ?_⟩
      have f14 : Ex F1 F4 := (f2.tr al.f).tr g4.f
      have km : OutW E fr W F4 D o := k.mono (g1.f.tr f14)
      cases hx : x e3 with
      | none => rw [hx] at h2; cases h2
      | some ob =>
        rw [hx] at h2
        refine ⟨F4, ow4, e3, ob, R4, hx, ?_⟩
        cases ob with
        | nxt e' => exact fun F5 H5 ow5 σ5 R5 f5 => ⟨F5, ow5, e', R5, f14.tr f5, h2⟩
        | cnt e' => exact fun F5 H5 ow5 σ5 R5 f5 => ⟨F5, ow5, e', R5, f14.tr f5, h2⟩
        | brk e' =>
          cases h2
          exact fun F5 H5 ow5 σ5 R5 f5 => km F5 H5 ow5 σ5 R5 f5
        | ret r e' =>
          cases h2
          exact fun v F5 H5 ow5 σ5 H0 ow0 R5 f5 rs => km v F5 H5 ow5 σ5 H0 ow0 R5 f5 rs
  · have e0 : ds.drop i = [] := List.drop_eq_nil_of_le (by omega)
    rw [e0, forL] at h2
    cases h2
    exact .inl ⟨w2 (by omega), k F2 H2 ow2 σ2 R2 (g1.f.tr f2)⟩⟩
/-! ### expressions that may raise, as statements -/
def xDropR (ev : EvE) : EvS := fun env => (ev env).map fun p => if p.1.exc.isSome = true then .ret p.1 p.2 else .nxt p.2
theorem rs_expr (h : RE E W X e ev) (hs : swapsWith e none pos.line X.env = pure false := by rfl) : RS E W X (.Expr e pos) (xDropR ev) := ⟨fun fr => (ps_expr (h.pe fr) hs).weak fun D σ H ⟨F, ow, env, o, R, ee, k⟩ => by
  obtain ⟨⟨r, e1⟩, h1, h⟩ := Option.map_eq_some_iff.mp ee
  refine ⟨F, ow, env, r, e1, R, h1, fun v F' H' ow' R' g rs => ?_⟩
  cases z : r.exc with
  | none =>
    rw [endR_none z]
    rw [z] at h
    cases h
    exact k F' H' ow' σ R' g.f
  | some p =>
    rw [endR_some z]
    rw [z] at h
    cases h
    have := k v F' H' ow' σ _ _ R' g.f rs
    rwa [endR_some z] at this⟩
theorem rs_ret (h : RE E W X e ev) : RS E W X (.Return (some e) pos) (xRet ev) := ⟨fun fr => (ps_ret (h.pe fr)).weak fun D σ H ⟨F, ow, env, o, R, ee, k⟩ => by
  obtain ⟨⟨r, e1⟩, h1, h⟩ := Option.map_eq_some_iff.mp ee
  cases h
  exact ⟨F, ow, env, r, e1, R, h1, fun v F' H' ow' R' g rs => k v F' H' ow' σ _ _ R' g.f rs⟩⟩
def xSetR (i : Nat) (ev : EvE) : EvS := fun env => (ev env).bind fun p => if p.1.exc.isSome = true then some (.ret p.1 p.2) else (stS i p.1 p.2).map .nxt
theorem rs_set {i : Nat} {z : Str} (hN : X.N.Nodup) (hi : X.N[i]? = some z) (hx : Loc X.env.scope z) (h : RE E W X e ev) (hs : swapsWith e (some (.Name z pos')) pos.line X.env = pure false := by rfl)
    (hf : X.fn z = true ∨ X.env.scope.names.lookup z = some .local := by first | exact .inl rfl | exact .inr rfl | assumption) : RS E W X (.Assign [.Name z pos'] e pos) (xSetR i ev) := ⟨fun fr => (ps_set hN hi hx (h.pe fr) hs hf).weak fun D σ H ⟨F, ow, env, o, R, ee, k⟩ => by
  obtain ⟨⟨r, e1⟩, h1, h⟩ := bind2 ee
  refine ⟨F, ow, env, r, e1, R, h1, fun v F' H' ow' R' g rs => ?_⟩
  cases z : r.exc with
  | none =>
    rw [endR_none z]
    rw [z] at h
    obtain ⟨e2, h2, h⟩ := Option.map_eq_some_iff.mp h
    cases h
    obtain ⟨s, h3, h4, rfl⟩ := stS_some h2
    obtain ⟨ow2, R2⟩ := R'.store h3 h4 rs
    exact k F' H' ow2 _ R2 g.f
  | some p =>
    rw [endR_some z]
    rw [z] at h
    cases h
    have := k v F' H' ow' σ _ _ R' g.f rs
    rwa [endR_some z] at this⟩
end
/-! ### defs -/
def spR (E : ExtK) (f : FSem) (n : Nat) : Sp := fun vs H Q XE => vs.length = n ∧ ∃ (F B : Hp) (ow : Ow) (args : List Slot) (r : Slot) (outs : List Slot), Ex F H ∧ Ex B H ∧ (∀ a i, ow a = some i → F a = none ∧ B a = none ∧ H a ≠ none) ∧ args.length = n ∧
  (∀ (i : Nat) (s : Slot), args[i]? = some s → s.given = true ∧ ∃ v, vs[i]? = some v ∧ Sl E F H (fun a => ow a = some i) v s) ∧ f args = some (r, outs) ∧
  ∀ v F' H' ow', Ret E F H B vs outs F' H' ow' v r → endR r v (Q v H') fun c d => XE c d H'
section
variable {P : Program} {w : World} {K : PySem.W.Frag} {mg : Str → Option Value} {base : Heap} {E : ExtK}
theorem def_okR {x qual : Str} {params : Arguments} {body : List Stmt} {scope : Scope} {dvs : List V} {kws : List (Str × V)} {f : Addr} {fd : FuncData} {N ps : List Str} {k n : Nat} {xb : EvS} (F : FunD K x qual params body scope dvs kws f fd) (S : FnScope N ps scope) (hn : ps.length = n)
    (hb : ∀ (cdv : Value) (A : Around) (outer : List Env) (s : Shared) (H : Hp) (XE : XK) (W : WX), Room k (A.deeper (envOfC qual scope s.heap.objs.size f cdv)) → NoRep A → Takes (cxOf (L2.CX P w) P w K mg base N qual scope f cdv A outer s H XE) W → PassesOwn (model P w) (cxOf (L2.CX P w) P w K mg base N qual scope f cdv A outer s H XE).A (cxOf (L2.CX P w) P w K mg base N qual scope f cdv A outer s H XE).env (cxOf (L2.CX P w) P w K mg base N qual scope f cdv A outer s H XE).xe →
      RSs E W (cxOf (L2.CX P w) P w K mg base N qual scope f cdv A outer s H XE) body xb) :
    FnG P w K mg base (L2.CX P w) (k + 1) f fd ps (spR E (runDef N.length xb) n) := by
  refine fnG_of F S (fun vs H Q XE z => z.1.trans hn.symm) fun cdv A outer s H vs Q XE hr nr h => ?_
  obtain ⟨hl, F0, B, ow, args, r, outs, fh, bh, sep, la, ha, hf, k⟩ := h
  let fr : Fra := ⟨F0, H, B, vs⟩
  refine ⟨TSw E fr (fun c d _ H => XE c d H) xb, (hb cdv A outer s H XE _ hr nr (takes_of rfl rfl rfl rfl) (passes_of rfl)).ps fr, ?_⟩
  have nl : n ≤ N.length := by have := congrArg List.length S.pre; rw [List.length_take] at this; omega
  have R : Rel E fr F0 H ow (args ++ List.replicate (N.length - args.length) .und) (L2.start N vs) := by
    refine ⟨fh, Ex.refl _, bh, fun _ _ _ => rfl, fun _ h => h, sep, ?_, fun i s e => ?_, fun i s e p => ?_⟩
    · unfold L2.start
      rw [List.length_append, List.length_append, List.length_replicate, List.length_replicate, List.length_map]
      omega
    · by_cases hi : i < args.length
      · rw [List.getElem?_append_left hi] at e
        obtain ⟨_, v, hv, hs⟩ := ha i s e
        refine .inr ⟨v, ?_, hs⟩
        unfold L2.start
        rw [List.getElem?_append_left (by rw [List.length_map]; omega), List.getElem?_map, hv]
        rfl
      · rw [List.getElem?_append_right (by omega), List.getElem?_replicate] at e
        split at e
        · cases e; exact .inl rfl
        · cases e
    · by_cases hi : i < args.length
      · rw [List.getElem?_append_left hi] at e
        obtain ⟨_, v, hv, hs⟩ := ha i s e
        refine ⟨v, hv, ?_⟩
        unfold L2.start
        rw [List.getElem?_append_left (by rw [List.length_map]; omega), List.getElem?_map, hv]
        rfl
      · rw [List.getElem?_append_right (by omega), List.getElem?_replicate] at e
        split at e
        · cases e; cases p
        · cases e
  have fin : ∀ {F' H' ow' σ' e' v r}, Rel E fr F' H' ow' e' σ' → Ex F0 F' → outsOf args e' = some outs → r.par = false → r ≠ .und → (∃ S : Addr → Prop, (∀ a, S a → ow' a = none ∧ F' a = none ∧ B a = none ∧ H' a ≠ none) ∧ Sl E F' H' S v r) → Ret E F0 H B vs outs F' H' ow' v r := fun {F' H' ow' σ' e' v r} R' f ho np nu rs =>
    ⟨R'.fh, f, R'.bh, R'.fb, R'.dom, R'.sep, fun i s e p => by
      have ee := outsOf_get ho e p
      obtain ⟨v, h1, h2⟩ := R'.pr i s ee p
      rcases R'.sl i s ee with z | ⟨v', h3, h4⟩
      · subst z; cases p
      · rw [h2] at h3; cases h3; exact ⟨v, h1, h4⟩, np, nu, rs⟩
  unfold runDef at hf
  split at hf
  · rename_i r' e' hx
    obtain ⟨os, h1, h2⟩ := Option.map_eq_some_iff.mp hf
    cases h2
    exact ⟨F0, ow, _, _, R, hx, fun v F' H' ow' σ' H0 ow0 R' f rs => k v F' H' ow' (fin R' f h1 rs.1 rs.2.1 (by
      obtain ⟨_, _, S, hS, hs⟩ := rs
      exact ⟨S, fun a sa => ⟨(hS a sa).1, (hS a sa).2.1, (hS a sa).2.2.1, (hS a sa).2.2.2.1⟩, hs⟩))⟩
  · rename_i e' hx
    obtain ⟨os, h1, h2⟩ := Option.map_eq_some_iff.mp hf
    cases h2
    exact ⟨F0, ow, _, _, R, hx, fun F' H' ow' σ' R' f => k .non F' H' ow' (fin R' f h1 rfl (fun z => nomatch z) ⟨fun _ => False, fun _ z => z.elim, .non⟩)⟩
  · cases hf
end
/-- a def that may raise, and may be called by its name -/
structure FnER (E : ExtK) (P : Program) (w : World) (K : PySem.W.Frag) (mg : Str → Option Value) (base : Heap) (k : Nat) (x : Str) (params : Arguments) (body : List Stmt) (scope : Scope) (ps : List Str) (f : FSem) : Prop where
  ex : ∃ (fA : Addr) (fd : FuncData), FnG P w K mg base (L2.CX P w) k fA fd ps (spR E f ps.length) ∧ mg x = some (.ref fA) ∧ FunD K x x params body scope [] [] fA fd
  bd : ∀ (kV doc pm : Value) (an : Option Addr) (cdv ct : Value) (us : List Value), us.length = ps.length → bindArgs (PySem.W.fnOf x x params body scope .none kV doc pm an cdv ct) ⟨us, []⟩ = pure (ps.zip us)
section
variable {X : Cx} {W : WX} {k n : Nat} {f : Addr} {fd : FuncData} {ps ks : List Str} {sp : Sp} {x : Str} {p pos : Pos} {e : Expr} {es : List Expr} {kws : List Keyword} {t tk : TA} {pins : List (Addr × Obj)} {σ : L2.St} {H : Hp} {s : Shared} {Q : VK} {us us' : List Value} {vs : List V} {kw : List (Str × Value)}
theorem run_R (F : FnG X.prog X.w X.K X.mg X.base (L2.CX X.prog X.w) k f fd ps sp) (nr : NoRep X.A) (room : Room k X.A) (tk : Takes X W) (inv : Inv X pins σ H s) (bt : BindsTo s fd ⟨us, kw⟩ (ps.zip us')) (rv : Vals vs us') (want : sp vs H Q fun c d H' => W c d σ H') :
    wpAny (model X.prog X.w) X.A (PySem.call (.ref f) us kw) (EP X pins σ Q) X.xe s := by
  refine wpAny_call (codeAny_mono (F.go X.A X.stack s H ⟨us, kw⟩ us' vs Q _ nr room inv.env0 bt rv want) fun r s2 h2 => ?_)
  rcases r with e2 | (v2 | _ | _ | _)
  · exact tk _ _ (XE.of_call inv (fun _ _ _ h => h) h2)
  all_goals first | exact inv.after h2 | exact h2.elim
theorem peR (F : FnG X.prog X.w X.K X.mg X.base (L2.CX X.prog X.w) k f fd ps sp) (nr : NoRep X.A) (room : Room k X.A) (gl : Gl X x) (at_ : X.mg x = some (.ref f)) (kp : PySem.W.keepIn X.K (.ref f) = true) (hb : Binds X.K fd ps []) (tk : Takes X W) (ha : PA X (e :: es) t)
    (hdb : (x == ("__debug__" : Str)) = false) (he : starEach (e :: es) X.env = (false, eval e X.env) :: starEach es X.env) (hpl : (backTo pos (starEach es X.env)).any (·.1) = false) :
    PE X (.Call (.Name x p) (e :: es) [] pos) (fun σ H Q => t σ H fun vs H1 => sp vs H1 Q fun c d H' => W c d σ H') :=
  ⟨fun pins s σ H Q inv want => wpAny_Call_Name_kw (ld_glob inv gl at_ (PySem.W.callWith_K (h₀ := X.base) inv.ok.mod.kin kp (thn (ha.run pos pins s σ H _ inv want) fun us s1 ⟨vs, H1, i1, rv, q⟩ =>
    ⟨i1.kIn, run_R F nr room tk i1 (binds_all hb i1 (rv.length.symm.trans (F.cnt _ _ _ _ q))) rv q⟩) he hpl) hdb)⟩
theorem peR0 (F : FnG X.prog X.w X.K X.mg X.base (L2.CX X.prog X.w) k f fd ps sp) (nr : NoRep X.A) (room : Room k X.A) (gl : Gl X x) (at_ : X.mg x = some (.ref f)) (kp : PySem.W.keepIn X.K (.ref f) = true) (hb : Binds X.K fd ps []) (tk : Takes X W)
    (hdb : (x == ("__debug__" : Str)) = false) : PE X (.Call (.Name x p) [] [] pos) (fun σ H Q => sp [] H Q fun c d H' => W c d σ H') :=
  ⟨fun pins s σ H Q inv want => wpAny_Call_Name_kw (ld_glob inv gl at_ (PySem.W.callWith_K0 inv.kIn kp (run_R (us := []) (vs := []) F nr room tk inv (binds_all hb inv (by have := F.cnt _ _ _ _ want; simpa using this)) .nil want)) hdb)⟩
end
section
variable {E : ExtK} {W : WX} {X : Cx} [KX X] {e : Expr} {es : List Expr} {p pos : Pos} {k j : Nat} {x : Str} {params : Arguments} {body : List Stmt} {scope : Scope} {ps : List Str} {f : FSem}
variable {F H : Hp} {σ : L2.St} {vs : List V} {as : List Arg}
theorem call_coreR {fr : Fra} {F0 H0 : Hp} {ow0 ow : Ow} {env env' : SEnv} {f : FSem} {n : Nat} {ss outs : List Slot} {r : Slot} {q br : Bool} {Q : VK} {XE : XK} (R : Rel E fr F H ow env σ) (g : Grow F0 H0 ow0 F H ow) (hq : q = true → Ex H0 H)
    (ha : ArgsOk F σ vs as) (hn : as.length = n) (ok : refsOk as = true) (hs : argSs env as = some ss) (hf : f ss = some (r, outs)) (hb : backS as outs env = some env') (nb : br = false → ∀ j, Arg.ref j ∉ as)
    (k : ∀ v F' H' ow', Rel E fr F' H' ow' env' σ → Grow F0 H0 ow0 F' H' ow' → ((q && !br) = true → Ex H0 H') → Res E fr H0 ow0 F' H' ow' v r → endR r v (Q v H') fun c d => XE c d H') : spR E f n vs H Q XE := by
  obtain ⟨f', h1, h2⟩ : ∃ f' : FSem, f' ss = some (r, outs) ∧ ∀ s' x', f' s' = some x' → s' = ss ∧ x' = (r, outs) := by
    classical
    refine ⟨fun s' => if s' = ss then some (r, outs) else none, if_pos rfl, fun s' x' h => ?_⟩
    have h : (if s' = ss then some (r, outs) else none) = some x' := h
    split at h
    · rename_i z; cases h; exact ⟨z, rfl⟩
    · cases h
  obtain ⟨l, F1, B, owc, args, r', outs', a1, a2, a3, a4, a5, a6, a7⟩ := call_core (XE := XE) (f := f') (Q := fun v H' => endR r v (Q v H') fun c d => XE c d H') R g hq ha hn ok hs h1 hb nb k
  obtain ⟨rfl, e2⟩ := h2 _ _ a6
  cases e2
  exact ⟨l, F1, B, owc, _, _, _, a1, a2, a3, a4, a5, hf, a7⟩
theorem re_call {q br : Bool} {ev : EvR} (F : FnER E X.prog X.w X.K X.mg X.base k x params body scope ps f) (nr : NoRep X.A) (hr : Room j X.A) (hk : k ≤ j) (hg : Gl X x) (tk : Takes X W) (ha : SAr E X (e :: es) q br ev) (hl : (e :: es).length = ps.length) (hev : ∀ env as env', ev env = some (as, env') → as.length = (e :: es).length)
    (hdb : (x == ("__debug__" : Str)) = false := by decide) (he : starEach (e :: es) X.env = (false, eval e X.env) :: starEach es X.env := by rfl) (hpl : (backTo pos (starEach es X.env)).any (·.1) = false := by rfl) :
    RE E W X (.Call (.Name x p) (e :: es) [] pos) (evCall f ev) := ⟨fun fr => by
  obtain ⟨fA, fd, F1, hm, FD⟩ := F.ex
  refine (peR (F1.mono hk) nr hr hg hm FD.kp (FD.bindsN F.bd) tk (ha.pa fr) hdb he hpl).weak fun σ H Q ⟨F, ow, env, r, env', R, ee, k⟩ => ?_
  obtain ⟨as, e1, ss, outs, h1, h2, h3, h4, h5⟩ := evCall_some ee
  refine ⟨F, ow, env, as, e1, R, h1, fun vs F' H' ow' R' g hq aok => ?_⟩
  exact call_coreR (br := br) R' g hq aok ((hev _ _ _ h1).trans hl) h2 h3 h4 h5 (fun z => ha.nb z _ _ _ h1) fun v F2 H2 ow2 R2 g2 _ rs => k v F2 H2 ow2 R2 g2 rs⟩
end
/-! ### raise -/
section
variable {W : WX} {X : Cx} [hx : KX X] {fl c : Str} {x : Str} {p pos pos' : Pos} {e : Expr}
theorem pmk_xc {te : TE} {C : Addr} (T : XcC X.K fl C) (pf : ((X.prog.main.file : Str) == fl) = true) (pt : (X.prog.main.scope.names.lookup ("super" : Str)).isSome = false) (sup : X.mg ("super" : Str) = none) {k : Nat} (hr : Room (k + 1) X.A) (hg : Gl X x) (hm : X.mg x = some (.ref C)) (he : PE X e te)
    (hdb : (x == ("__debug__" : Str)) = false := by decide) (hs : starEach [e] X.env = (false, eval e X.env) :: starEach [] X.env := by rfl) :
    PMk X (.Call (.Name x p) [e] [] pos) (fun σ H Q => te σ H fun v H1 => ∀ dx, H1 dx = none → Q (.ref C) (some dx) (upd H1 dx (.xd [("value", v)]))) := by
  intro pins s σ H Q I h
  refine wpAny_Call_Name_kw (ld_glob I hg hm ?_ hdb)
  refine PySem.W.callWith_K (h₀ := X.base) I.ok.mod.kin T.o.kC ?_ hs (by rfl)
  rw [hs]
  show wpAny _ _ (spliced ((false, eval e X.env) :: backTo pos (starEach [] X.env))) _ _ s
  refine Calls.spliced_cons (thn (he.run pins s σ H _ I h) fun u s1 ⟨v, H1, I1, r1, q1⟩ => ?_)
  refine Calls.spliced_nil ⟨I1.kIn, ?_⟩
  show wpAny _ _ (call (.ref C) [u]) _ _ _
  refine xc_made T pf pt sup hr I1 r1 fun a dx t1 G h2 tk nd na ne J kk ga ha => ?_
  exact ⟨a, _, _, { s1 with heap := G, toks := tk }, _, .ref C, some dx, rfl, J, kk, ga, ha, ⟨rfl, rfl⟩, rfl, rfl, by rw [upd_ne ne.symm]; exact na, rfl, J.bare, raises_own T.o.exC T.o.tyC, q1 dx nd⟩
/-- raise C(e) -/
def xRaise (c : Str) (ev : EvB) : EvS := fun env => (ev env).map fun q => .ret (exR c q.1) q.2
theorem rs_raise {q : Bool} {ev : EvB} {k : Nat} (hc : X.calm = true) (T : XcC KC.K fl (He.ga KC.K c)) (pf : ((X.prog.main.file : Str) == fl) = true) (pt : (X.prog.main.scope.names.lookup ("super" : Str)).isSome = false) (sup : X.mg ("super" : Str) = none) (hr : Room (k + 1) X.A) (hg : Gl X c) (hm : X.mg c = some (.ref (He.ga KC.K c))) (tk : Takes X W)
    (he : SP E0 X e q ev) (hdb : (c == ("__debug__" : Str)) = false := by decide) (hs : starEach [e] X.env = (false, eval e X.env) :: starEach [] X.env := by rfl) : RS E0 W X (.Raise (some (.Call (.Name c p) [e] [] pos)) none pos') (xRaise c ev) := ⟨fun fr => by
  refine (ps_raise hc tk (pmk_xc (by rw [hx.eq]; exact T) pf pt sup hr hg hm (he.pe fr) hdb hs)).weak fun D σ H ⟨F, ow, env, o, R, ee, k⟩ => ?_
  obtain ⟨⟨d, e1⟩, h1, ee⟩ := Option.map_eq_some_iff.mp ee
  cases ee
  refine ⟨F, ow, env, d, e1, R, h1, fun v F' H' ow' R' g hq rv dx nd => ?_⟩
  have al : Alloc F' H' F' (upd H' dx (.xd [("value", v)])) := Alloc.tmp R'.fh nd
  have sd : upd H' dx (.xd [("value", v)]) dx ≠ none := by rw [upd_same]; exact fun z => by cases z
  exact k (.ref dx) F' _ ow' σ (fun _ => none) ow' (R'.alloc al) g.f ⟨rfl, (fun z => nomatch z), fun a => a = dx, fun a ha => (by
    subst ha
    exact ⟨R'.free nd, R'.fh.non nd, R'.bh.non nd, sd, fun z => absurd rfl z⟩), .inr (.inr (.inr (.inr (.inl ⟨c, d, rfl, rfl, dx, v, rfl, rfl, upd_same, rv⟩))))⟩ dx rfl⟩
end
end IX

/-! text IX38 -/
set_option maxHeartbeats 2000000
/-! try .. except C as e: the exception that is caught is a value of the slot of e. -/
namespace IX
open PySem PySem.Spec PyProof.Rows L2
/-- an exception of the class cls that is held, its dict at dx -/
def ExZ (cls : Value) (dx a : Addr) : HO := .ext fun h => ∃ (oe : Obj) (vs : Array Value), h.get? a = some oe ∧ oe.cls = cls ∧ oe.dict = some dx ∧ oe.data = .fields vs
theorem exZ_ok {P : Program} {w : World} {H : Hp} {h : Heap} {dx a : Addr} {cls : Value} {oe : Obj} {vs : Array Value} (e : h.get? a = some oe) (z : Zc cls (some dx) oe) (d : oe.data = .fields vs) : ObjOk P w H h a (ExZ cls dx a) :=
  ⟨⟨oe, vs, e, z.1, z.2, d⟩, ⟨oe, e⟩, fun _ _ ⟨o, v, q, r⟩ k => ⟨o, v, k o q, r⟩⟩
/-- the context of a suite whose exception is tracked -/
abbrev hotC (X : Cx) (a : Addr) (pn : List (Addr × Obj)) : Cx := { X with A := X.A.mark (some (.ref a)), calm := false, pn := pn, xe := fun _ _ => False }
section
variable {X : Cx} {pins : List (Addr × Obj)} {σ : L2.St} {H : Hp} {s s' sI : Shared} {B : Heap}
theorem ok_hot (ok : X.Ok) (a : Addr) (pn : List (Addr × Obj)) : (hotC X a pn).Ok :=
  ⟨ok.mod, ok.kind, ok.glob, ok.blt, ok.above, ok.inj, ok.has, ok.cab, (fun z => absurd (show false = true from z) Bool.false_ne_true), ok.frames, ok.stk, ok.exf, ok.bs, ok.bsz, ok.noex, ok.exfs, ok.funs, ok.frf⟩
theorem inv_hot (I : Inv X pins σ H s) (a : Addr) : Inv (hotC X a (X.pn ++ pins)) [] σ H s :=
  ⟨ok_hot I.ok _ _, I.os, I.bare, I.base, I.loc, I.cell, I.free, I.freeC, fun p hp => I.pin p (by rw [List.append_nil] at hp; exact hp), I.hok, I.len⟩
theorem inv_unhot {a : Addr} {pn' : List (Addr × Obj)} (I : Inv (hotC X a (X.pn ++ pins)) pn' σ H s) (ok : X.Ok) : Inv X pins σ H s :=
  ⟨ok, I.os, I.bare, I.base, I.loc, I.cell, I.free, I.freeC, fun p hp => I.pin p (List.mem_append_left _ hp), I.hok, I.len⟩
/-- back on the ground, the exception's object tracked -/
theorem landedT {a : Addr} {o : HO} (I : Inv X pins σ H sI) (nb : ∀ b o, sI.heap.get? b = some o → b ∉ frs X.stack → B.get? b = some o) (st : B.StaysIn s'.heap) (up : sI.heap.UpToSlots s'.heap) (os : s'.os = sI.os) (ag : AllBare s'.gens) (hp : sI.heap.get? a = none) (hn : H a = none) (new : ObjOk X.prog X.w (upd H a o) s'.heap a o) :
    Inv X pins σ (upd H a o) s' := by
  have nf : ∀ b ∈ frs X.stack, ∀ o, sI.heap.get? b = some o → ∃ sl, s'.heap.get? b = some { o with slots := sl } := fun b hb o e => by
    obtain ⟨_, o', e', hd⟩ := I.stack.mem hb
    rw [e] at e'; cases e'
    exact up b o e hd
  have hokU : HOk X.prog X.w (upd H a o) s'.heap := fun b u e => by
    by_cases hb : b = a
    · subst hb
      rw [upd_same] at e
      cases e
      exact new
    · rw [upd_ne hb] at e
      exact ((I.inGround nb).kept st b u e).stay (fun _ _ _ q => q) (fun c q => by rw [upd_ne (ne_of_none q hn)]; exact q) fun c xs q => by rw [upd_ne (ne_of_none q hn)]; exact q
  have J := I.call (ch := []) (h' := s'.heap) (g' := s'.gens) (t' := s'.toks) (d' := s'.drawn) (H' := upd H a o)
    ⟨fun b o e _ hb _ => st b o (nb b o e hb), fun b o e _ hb _ => nf b hb o e, fun b o e n _ => by rw [upd_ne (fun z => by rw [z, hp] at e; cases e)]; exact n, fun b o e _ => by
      by_cases hb : b ∈ frs X.stack
      · obtain ⟨sl, q⟩ := nf b hb o e
        exact ⟨_, q⟩
      · exact ⟨o, st b o (nb b o e hb)⟩, fun b xs e => by rw [upd_ne (ne_of_none e hn)]; exact e, fun b _ xs e => by rw [upd_ne (ne_of_none e hn)]; exact e, fun b ps e => ⟨#[], by rw [upd_ne (ne_of_none e hn), e]; simp⟩⟩
    hokU ag (fun _ z => nomatch z)
  obtain ⟨a1, a2, a3, a4, a5⟩ := s'
  have e5 : a5 = sI.os := os
  subst e5
  exact J
end
def wX (K : PySem.W.Frag) (c : Value) (i : Nat) (ts : TS) (D : Ends) : WX := fun cls d σ H =>
  PySem.W.exmOne K cls c = some true ∧ ∃ dx, d = some dx ∧ ∀ a, H a = none → ts { nx := fun σ' H' => D.nx (σ'.set i none) H', rt := D.rt, bk := fun σ' H' => D.bk (σ'.set i none) H', ct := fun σ' H' => D.ct (σ'.set i none) H' } (σ.set i (some (.ref a))) (upd H a (ExZ cls dx a))
section
variable {X : Cx} {x n : Str} {c : Value} {i : Nat} {body suite : List Stmt} {b₀ : Stmt} {np pos pos' : Pos} {tb : WX → TS} {ts : TS}
theorem ps_try_x (hs : X.stack = X.env :: X.outer) (hf : X.env.frame = some X.env.locals) (hN : X.N.Nodup) (hi : X.N[i]? = some n) (hln : X.env.kindOf n = some .local) (hc : Names X x c)
    (hb : ∀ (W : WX) (pn : List (Addr × Obj)) (xe : Value → Shared → Prop), Takes (X.tr pn xe) W → PassesOwn (model X.prog X.w) X.A X.env xe → PSs (X.tr pn xe) body (tb W))
    (hsu : ∀ (a : Addr) (pn : List (Addr × Obj)), PSs (hotC X a pn) (b₀ :: suite) ts) :
    PS X (.Try body [.ExceptHandler (some (.Name x np)) (some n) (b₀ :: suite) pos'] [] [] pos) (fun D σ H => tb (wX X.K c i ts D) D σ H) := by
  refine ⟨fun pins s σ H D I h => ?_⟩
  have ok := I.ok
  have hfr : X.A.frames = some (X.env :: X.outer) := by rw [ok.frames, hs]
  have hloc : Loc X.env.scope n := .inl hln
  refine wpAny_Try_except ?_
  refine wpAny_mono ((hb (wX X.K c i ts D) (X.pn ++ pins) (fun e s₁ => wpAny (model X.prog X.w) X.A (noteFrame e X.env) (fun _ s₂ => wpAny (model X.prog X.w) X.A (setFlight e none) (fun _ s₃ =>
    wpAny (model X.prog X.w) X.A (handleBy e X.env [.ExceptHandler (some (.Name x np)) (some n) (b₀ :: suite) pos']) (L2.SP X pins D) X.xe s₃) X.xe s₂) X.xe s₁) (fun u s' xx => ?_) PassesOwn.looking).run [] s σ H D (I.toTry _) h) (fun f s1 hsp => ?_) (fun e s1 he => he)
  · -- the catch
    obtain ⟨a, B, sI, pins', σ', H', cls, d, rfl, J', nb, up, sky, na, os, ag, hb1, dx, rfl, hyes⟩ := xx
    have J : Inv X pins σ' H' sI := J'.ofTry ok
    have sky' : Sky B (X.env :: X.outer) a (Zc cls (some dx)) X.env.locals s'.heap := by rw [← hs]; exact sky
    show wpAny (model X.prog X.w) X.A (noteFrame (.ref a) X.env) _ _ _
    refine Sky.land Zc.steady hfr hf sky' fun h3 fl3 up3 => ?_
    have J3 : Inv X pins σ' H' { s' with heap := h3 } := J.landed nb fl3.1 (up.trans up3) os ag
    obtain ⟨oe3, vs3, he3, hz3, hd3⟩ := fl3.there
    have notFr : ∀ {h : Heap} {o : Obj} {vs : Array Value}, h.FunFrames B (X.env :: X.outer) → h.get? a = some o → o.data = .fields vs → a ∉ frs (X.env :: X.outer) := fun {h o vs} ff e dd hm => by
      obtain ⟨_, o', e', hnf⟩ := ff.mem hm
      rw [e] at e'; cases e'
      exact hnf _ dd
    have nfr := notFr fl3.2.2.1 he3 hd3
    have nL : a ≠ X.env.locals := fun z => nfr (List.mem_filterMap.mpr ⟨X.env, List.mem_cons_self, by rw [hf, z]⟩)
    have nF : a ∉ X.fs := fun hm => by
      obtain ⟨e, he, q⟩ := List.mem_filterMap.mp hm
      exact nfr (List.mem_filterMap.mpr ⟨e, List.mem_cons_of_mem _ he, q⟩)
    have nI : sI.heap.get? a = none := by
      cases e : sI.heap.get? a with
      | none => rfl
      | some o =>
        have := nb a o e (by rw [hs]; exact nfr)
        rw [fl3.2.1] at this
        cases this
    have S3 := J3.suite he3 hd3 na nL nF
    refine wpAny_handleBy_cons (codeAny_handlers_test ?_) (by intro q; cases q)
    have LT : PySem.W.Looks (model X.prog X.w) h3 (typeOf (.ref a)) cls := fun A Q E s k q => wpAny_typeOf_ref (k _ _ he3) (by rw [hz3.1]; exact q)
    have LM := PySem.W.exm_one (M := model X.prog X.w) (J3.kIn) LT hb1
    have test : ∀ {Q : Value → Shared → Prop} {E : Value → Shared → Prop}, Q c { s' with heap := h3 } → wpAny (model X.prog X.w) (X.A.mark (some (.ref a))) (eval (.Name x np) X.env) Q E { s' with heap := h3 } := fun {Q E} q => by
      obtain ⟨hg, hdbg, hm | ⟨hm, hv, hnn⟩⟩ := hc
      · exact ld_glob (X := X.suite a ((a, oe3) :: (X.pn ++ pins))) S3 hg hm q hdbg
      · exact ld_blt (X := X.suite a ((a, oe3) :: (X.pn ++ pins))) S3 hg hm hv q hnn hdbg
    refine test (LM.here ?_)
    refine codeAny_handlers_suite_as ?_
    refine HandSPX.lands_againZ fl3 fun h4 fl4 up4 => ?_
    obtain ⟨oe4, vs4, he4, hz4, hd4⟩ := fl4.there
    have J4 : Inv X pins σ' (upd H' a (ExZ cls dx a)) { s' with heap := h4 } := landedT J nb fl4.1 ((up.trans up3).trans up4) os ag nI na (exZ_ok he4 hz4 hd4)
    have S4 := inv_hot J4 a
    refine store_ok (X := hotC X a (X.pn ++ pins)) (v := .ref a) S4 hN hi hloc rfl (fun s5 S5 => ?_) (.inr hln)
    refine wpAny_mono ((hsu a (X.pn ++ pins)).run [] s5 _ _ _ S5 (hyes a na)) (fun f s6 hsp => ?_) (fun _ _ z => False.elim z)
    have end_ : ∀ {σ6 : L2.St} {H6 : Hp} {Q : Shared → Prop}, Inv (hotC X a (X.pn ++ pins)) [] σ6 H6 s6 → (∀ s7, Inv X pins (σ6.set i none) H6 s7 → Q s7) →
        wpAny (model X.prog X.w) X.A (do bindName X.env n .none; unbindBehindTheSuite X.env n pos') (fun _ s7 => Q s7) X.xe s6 := fun {σ6 H6 Q} S6 hq => gone_ok (inv_unhot S6 ok) hN hi hln hq
    cases f with
    | next =>
      obtain ⟨σ6, H6, S6, q6⟩ := hsp
      exact end_ S6 fun s7 J7 => ⟨_, _, J7, q6⟩
    | brk =>
      obtain ⟨σ6, H6, S6, q6⟩ := hsp
      exact end_ S6 fun s7 J7 => ⟨_, _, J7, q6⟩
    | cont =>
      obtain ⟨σ6, H6, S6, q6⟩ := hsp
      exact end_ S6 fun s7 J7 => ⟨_, _, J7, q6⟩
    | ret u =>
      obtain ⟨v6, σ6, H6, S6, r6, q6⟩ := hsp
      exact end_ S6 fun s7 J7 => ⟨_, _, _, J7, r6, q6⟩
  · cases f with
    | next =>
      obtain ⟨σ', H', J', q⟩ := hsp
      exact wpAny_execs_nil ⟨σ', H', J'.ofTry ok, q⟩
    | brk =>
      obtain ⟨σ', H', J', q⟩ := hsp
      exact ⟨σ', H', J'.ofTry ok, q⟩
    | cont =>
      obtain ⟨σ', H', J', q⟩ := hsp
      exact ⟨σ', H', J'.ofTry ok, q⟩
    | ret u =>
      obtain ⟨v, σ', H', J', r, q⟩ := hsp
      exact ⟨v, σ', H', J'.ofTry ok, r, q⟩
end
variable [KC]
theorem exZ_eq {c : Str} {dx a : Addr} : ExZ (excA c) dx a = ExK c dx a := rfl
instance kx_hot {X : Cx} [h : KX X] {a : Addr} {pn : List (Addr × Obj)} : KX (hotC X a pn) := ⟨h.eq⟩
instance kx_tr {X : Cx} [h : KX X] {pn : List (Addr × Obj)} {xe : Value → Shared → Prop} : KX (X.tr pn xe) := ⟨h.eq⟩
def undO (i : Nat) : Out → Out
  | .nxt e => .nxt (e.set i .und)
  | .brk e => .brk (e.set i .und)
  | .cnt e => .cnt (e.set i .und)
  | .ret r e => .ret r (e.set i .und)
def xTry (ks : List Str) (i : Nat) (xb xs : EvS) : EvS := fun env => match xb env with
  | some (.ret r e) => match r.exc with
    | none => some (.ret r e)
    | some p => if ks.contains p.1 = true then (stS i (.ext false 4 (exS p.1 p.2)) e).bind fun e2 => (xs e2).map (undO i) else none
  | o => o
section
variable {E : ExtK} {fr : Fra} {F H F' H' : Hp} {ow ow' : Ow} {env env' : SEnv} {σ : L2.St} {i : Nat}
theorem Rel.gone (R : Rel E fr F H ow env σ) : Rel E fr F H ow (env.set i .und) (σ.set i none) where
  fh := R.fh
  f0 := R.f0
  bh := R.bh
  fb := R.fb
  dom := R.dom
  sep := R.sep
  len := by rw [List.length_set, List.length_set]; exact R.len
  sl := fun j s e => by
    rcases get_set_of e with ⟨rfl, rfl⟩ | ⟨n, e⟩
    · exact .inl rfl
    · rw [List.getElem?_set_ne n.symm]; exact R.sl j s e
  pr := fun j s e p => by
    rcases get_set_of e with ⟨rfl, rfl⟩ | ⟨n, e⟩
    · cases p
    · rw [List.getElem?_set_ne n.symm]; exact R.pr j s e p
end
section
variable {X : Cx} [hx : KX X] {x n : Str} {c : Value} {i : Nat} {body suite : List Stmt} {b₀ : Stmt} {np pos pos' : Pos} {xb xs : EvS} {ks : List Str}
theorem ss_try (hs : X.stack = X.env :: X.outer) (hf : X.env.frame = some X.env.locals) (hN : X.N.Nodup) (hi : X.N[i]? = some n) (hln : X.env.kindOf n = some .local) (hc : Names X x c) (hk : ∀ k, ks.contains k = true → PySem.W.exmOne KC.K (excA k) c = some true)
    (hb : ∀ (W : WX) (pn : List (Addr × Obj)) (xe : Value → Shared → Prop), Takes (X.tr pn xe) W → PassesOwn (model X.prog X.w) X.A X.env xe → RSs E0 W (X.tr pn xe) body xb)
    (hsu : ∀ (a : Addr) (pn : List (Addr × Obj)), SSs E0 (hotC X a pn) (b₀ :: suite) xs) :
    SS E0 X (.Try body [.ExceptHandler (some (.Name x np)) (some n) (b₀ :: suite) pos'] [] [] pos) (xTry ks i xb xs) := ⟨fun fr => by
  refine (ps_try_x (tb := fun W => TSw E0 fr W xb) hs hf hN hi hln hc (fun W pn xe tk po => (hb W pn xe tk po).ps fr) fun a pn => (hsu a pn).ps fr).weak fun D σ H ⟨F, ow, env, o, R, ee, k⟩ => ?_
  unfold xTry at ee
  split at ee
  · rename_i r e hb
    split at ee
    · rename_i z
      cases ee
      exact ⟨F, ow, env, _, R, hb, fun v F' H' ow' σ' H0 ow0 R' f rs => by rw [endR_none z]; exact k v F' H' ow' σ' H0 ow0 R' f rs⟩
    · rename_i p z
      split at ee
      · rename_i zk
        obtain ⟨e2, h2, ee⟩ := bind2 ee
        obtain ⟨o2, h3, ee⟩ := Option.map_eq_some_iff.mp ee
        subst ee
        refine ⟨F, ow, env, _, R, hb, fun v F' H' ow' σ' H0 ow0 R' f rs => ?_⟩
        rw [endR_some z]
        intro dx hv
        subst hv
        refine ⟨by rw [hx.eq]; exact hk _ zk, dx, rfl, fun a na => ?_⟩
        obtain ⟨b, er⟩ := exc_some z
        subst er
        obtain ⟨np, _, S, hS, hr⟩ := rs
        have hr : E0.rel 5 F' H' S (.ref dx) (exS p.1 p.2) := hr
        rcases hr with ⟨_, _, _, _, _, _, _, eg, _⟩ | ⟨_, _, _, _, _, _, eg⟩ | ⟨_, _, _, _, _, et⟩ | ⟨_, _, et, _⟩ | ⟨c', d', _, eg, dx', u, ev, s1, h1, rv⟩ | ⟨_, _, _, et, _⟩ | ⟨_, _, et, _⟩
        · cases eg
        · cases eg
        · cases et
        · cases et
        · cases ev
          have eg : p.2 = d' := by
            have := eg
            simp only [exS, PyData.dict.injEq, List.cons.injEq, Prod.mk.injEq, PyData.tuple.injEq] at this
            exact this.1.2.2.1
          subst eg
          obtain ⟨s, h4, h5, rfl⟩ := stS_some h2
          have al : Alloc F' H' F' (upd H' a (ExZ (excA p.1) dx a)) := Alloc.tmp R'.fh na
          have nad : dx ≠ a := fun z => by subst z; rw [na] at h1; cases h1
          have sa : upd H' a (ExZ (excA p.1) dx a) a ≠ none := by rw [upd_same]; exact fun z => by cases z
          obtain ⟨ow2, R2, _⟩ := (R'.alloc al).store' (r := .ext false 4 (exS p.1 p.2)) (v := .ref a) (S := fun b => b = a ∨ b = dx) h4 h5 rfl (fun b hb => by
            rcases hb with rfl | rfl
            · exact ⟨R'.free na, R'.fh.non na, R'.bh.non na, sa⟩
            · exact ⟨(hS _ s1).1, (hS _ s1).2.1, (hS _ s1).2.2.1, by rw [upd_ne nad]; exact (hS _ s1).2.2.2.1⟩) (.inr (.inr (.inr (.inl ⟨p.1, p.2, rfl, rfl, a, dx, u, rfl, .inl rfl, .inr rfl, upd_same, by rw [upd_ne nad]; exact h1, rv⟩))))
          refine ⟨F', ow2, _, o2, R2, h3, ?_⟩
          cases o2 with
          | nxt e3 => exact fun F5 H5 ow5 σ5 R5 f5 => k F5 H5 ow5 _ R5.gone (f.tr f5)
          | brk e3 => exact fun F5 H5 ow5 σ5 R5 f5 => k F5 H5 ow5 _ R5.gone (f.tr f5)
          | cnt e3 => exact fun F5 H5 ow5 σ5 R5 f5 => k F5 H5 ow5 _ R5.gone (f.tr f5)
          | ret r3 e3 => exact fun v5 F5 H5 ow5 σ5 H0 ow0 R5 f5 rs5 => k v5 F5 H5 ow5 _ H0 ow0 R5.gone (f.tr f5) rs5
        · cases et
        · exact absurd et (by decide)
      · cases ee
  · rename_i nn
    refine ⟨F, ow, env, o, R, ee, ?_⟩
    cases o with
    | nxt e => exact k
    | brk e => exact k
    | cnt e => exact k
    | ret r e => exact absurd ee (nn r e)⟩
end
/-! ### e.value -/
def tXv (K : PySem.W.Frag) (te : TE) (n : Str) : TE := fun σ H Q => te σ H fun x H1 => ∃ (a dx C : Addr) (fs : List (Str × V)) (v : V), x = .ref a ∧ H1 a = some (ExZ (.ref C) dx a) ∧ XfC K C ∧ PySem.W.findIn K (.ref C) n = some none ∧ H1 dx = some (.xd fs) ∧ fs.lookup n = some v ∧ Q v H1
theorem pe_xv {X : Cx} {e : Expr} {te : TE} {pos : Pos} {n : Str} (he : PE X e te) (hb : attributeBase e n X.env (eval e X.env) = eval e X.env := by rfl) : PE X (.Attribute e n pos) (tXv X.K te n) := by
  refine ⟨fun pins s σ H Q I h => ?_⟩
  refine attr_of hb (thn (he.run pins s σ H _ I h) fun u s1 hh => ?_)
  obtain ⟨x, H1, I1, rx, a, dx, C, fs, v, ex, ha, T, hno, ea, l, q⟩ := hh
  subst ex
  obtain rfl : u = Value.ref a := rx
  obtain ⟨⟨oe, vs, ga, zc, zd, hd⟩, _, _⟩ := I1.hok a _ ha
  have hx : ObjOk X.prog X.w H1 s1.heap dx (.xd fs) := I1.hok dx _ ea
  obtain ⟨mA, hns, hr⟩ := hx
  obtain ⟨od, ho, hl⟩ := lookIn_ns hns
  obtain ⟨u, hu, ru⟩ := RelO.some_of (v := v) (o := mA n) (by rw [← l]; exact hr n)
  have J : PySem.W.InstAt s1.heap a oe C (some od) := ⟨ga, zc, by unfold PySem.W.notCls; rw [hd] <;> rfl, by rw [zd]; exact ho⟩
  exact HandSPX.exc_get I1.kIn J T.ga T.gg T.exC (PySem.W.findObj_own T.hdC hno rfl (by rw [hl, hu])) (handed_of ru) ⟨v, H1, I1.tok _, ru, q⟩
def heldAt (env : SEnv) (i : Nat) : Option (Str × PyData) := match env[i]? with
  | some (.ext _ 4 (.dict [(.none, .tuple [.str c, d])])) => some (c, d)
  | _ => none
theorem heldAt_some {env : SEnv} {i : Nat} {p : Str × PyData} (h : heldAt env i = some p) : ∃ b, env[i]? = some (.ext b 4 (exS p.1 p.2)) := by
  unfold heldAt at h
  split at h
  · cases h; exact ⟨_, by assumption⟩
  · cases h
theorem Rel.held {fr : Fra} {F H : Hp} {ow : Ow} {env : SEnv} {σ : L2.St} {i : Nat} {p : Str × PyData} (R : Rel E0 fr F H ow env σ) (h : heldAt env i = some p) : ∃ (a dx : Addr) (u : V), σ[i]? = some (some (.ref a)) ∧ ow a = some i ∧ ow dx = some i ∧ H a = some (ExK p.1 dx a) ∧ H dx = some (.xd [("value", u)]) ∧ Rp F u p.2 := by
  obtain ⟨b, hi⟩ := heldAt_some h
  rcases R.sl i _ hi with z | ⟨v, hv, hr⟩
  · cases z
  · have hr : E0.rel 4 F H (fun a => ow a = some i) v (exS p.1 p.2) := hr
    rcases hr with ⟨_, _, _, _, _, _, _, eg, _⟩ | ⟨_, _, _, _, _, _, eg⟩ | ⟨_, _, _, _, _, et⟩ | ⟨c', d', _, eg, a, dx, u, ev, s1, s2, h1, h2, rv⟩ | ⟨_, _, et, _⟩ | ⟨_, _, _, et, _⟩ | ⟨_, _, et, _⟩
    · cases eg
    · cases eg
    · cases et
    · simp only [exS, PyData.dict.injEq, List.cons.injEq, Prod.mk.injEq, PyData.tuple.injEq, PyData.str.injEq] at eg
      obtain ⟨⟨_, e1, e2, _⟩, _⟩ := eg
      subst e1 e2
      subst ev
      exact ⟨a, dx, u, hv, s1, s2, h1, h2, rv⟩
    · cases et
    · cases et
    · exact absurd et (by decide)
def evExV (ks : List Str) (i : Nat) : EvB := fun env => (heldAt env i).bind fun p => if ks.contains p.1 = true then some (p.2, env) else none
section
variable {X : Cx} [hx : KX X] {x : Str} {i : Nat} {p pos : Pos} {ks : List Str}
theorem sp_excV (h : PE X (.Name x p) (tVar i)) (hk : ∀ k, ks.contains k = true → XfC KC.K (He.ga KC.K k) ∧ PySem.W.findIn KC.K (excA k) "value" = some none) (hb : attributeBase (.Name x p) "value" X.env (eval (.Name x p) X.env) = eval (.Name x p) X.env := by rfl) : SP E0 X (.Attribute (.Name x p) "value" pos) true (evExV ks i) := ⟨fun fr => (pe_xv h hb).weak fun σ H Q ⟨F, ow, env, d, env', R, ee, k⟩ => by
  obtain ⟨p, h1, ee⟩ := bind2 ee
  split at ee
  · rename_i z
    cases ee
    obtain ⟨a, dx, u, hv, _, _, h2, h3, rv⟩ := R.held h1
    refine ⟨_, hv, a, dx, _, _, u, rfl, h2, by rw [hx.eq]; exact (hk _ z).1, by rw [hx.eq]; exact (hk _ z).2, h3, rfl, k u F H ow R Grow.refl (fun _ => Ex.refl _) rv⟩
  · cases ee⟩
end
end IX

/-! text IX39 -/
set_option maxHeartbeats 2000000
/-! What the written part says of the own exceptions, looked up. -/
namespace IX
open PySem PySem.Spec PyProof.Rows L2
def xclB (K : PySem.W.Frag) (C : Addr) : Bool := match K.lookup C with
  | some ⟨.type t, _, .cls cd, sl⟩ => (match cd.mro, sl.toList with
    | .ref C' :: bm, [_, _, _, _, some (.builtin n), _] => decide (t = "type") && (C' == C && (n == "ValueError.__new__" && (!cd.hasDel && (cd.hasDict && HandSPX.refsVE bm))))
    | _, _ => false)
  | _ => false
theorem xclB_ok {K : PySem.W.Frag} {C : Addr} (q : xclB K C = true) : ∃ nm q N bs bm sn sub ab col dd k0 k1 k2 k3 k5, K.lookup C = some (excClassObj nm q C N bs bm true sn sub ab col dd k0 k1 k2 k3 k5 "ValueError.__new__") ∧ PySem.HandSPX.refsVE bm = true := by
  unfold xclB at q
  split at q
  · rename_i t dd cd sl ho
    split at q
    · rename_i C' bm k0 k1 k2 k3 n k5 hm hs
      simp only [Bool.and_eq_true, beq_iff_eq, Bool.not_eq_true', decide_eq_true_eq] at q
      obtain ⟨rfl, rfl, rfl, hdel, hdic, hr⟩ := q
      obtain ⟨nm, bs, mro, ns, qn, hd, sn, sub, ab, col, del⟩ := cd
      dsimp only at hm hdel hdic
      subst hm hdel hdic
      have hsl : sl = #[k0, k1, k2, k3, some (.builtin "ValueError.__new__"), k5] := by
        obtain ⟨l⟩ := sl
        simp only at hs
        rw [hs]
      subst hsl
      exact ⟨nm, qn, ns, bs, bm, sn, sub, ab, col, dd, k0, k1, k2, k3, k5, ho, hr⟩
    · cases q
  · cases q
def flB (K : PySem.W.Frag) (fl : Str) (cda : Addr) : Bool := match K.lookup cda with
  | some ⟨_, _, .fields (vs : Array Value), _⟩ => (match (vs[2]? : Option Value) with
    | some (.str f _) => decide (f = fl)
    | _ => false)
  | _ => false
theorem flB_ok {K : PySem.W.Frag} {fl : Str} {cda : Addr} (h : flB K fl cda = true) : ∃ ccl cdd vs ccs tf, K.lookup cda = some ⟨ccl, cdd, .fields vs, ccs⟩ ∧ vs[2]? = some (.str fl tf) := by
  unfold flB at h
  split at h
  · rename_i a b vs c e
    split at h
    · rename_i f t e2
      have := of_decide_eq_true h
      subst this
      exact ⟨_, _, _, _, _, e, e2⟩
    · cases h
  · cases h
def ceB (K : PySem.W.Frag) (C cc : Addr) : Bool := match K.lookup cc with
  | some ⟨_, _, .cell (some (.ref D)), _⟩ => D == C
  | _ => false
theorem ceB_ok {K : PySem.W.Frag} {C cc : Addr} (h : ceB K C cc = true) : ∃ cl cld csl, K.lookup cc = some ⟨cl, cld, .cell (some (.ref C)), csl⟩ := by
  unfold ceB at h
  split at h
  · rename_i e
    have := beq_iff_eq.mp h
    subst this
    exact ⟨_, _, _, e⟩
  · cases h
def upB (K : PySem.W.Frag) (C : Addr) : Bool := match PySem.W.clsIn K C with
  | some cd => decide (PySem.W.alongIn K "__init__" ((cd.mro.dropWhile (· != .ref C)).drop 1) = some (some (.builtin "ValueError.__init__")))
  | _ => false
theorem upB_ok {K : PySem.W.Frag} {C : Addr} (h : upB K C = true) : ∃ cd, PySem.W.clsIn K C = some cd ∧ PySem.W.alongIn K "__init__" ((cd.mro.dropWhile (· != .ref C)).drop 1) = some (some (.builtin "ValueError.__init__")) := by
  unfold upB at h
  split at h
  · exact ⟨_, by assumption, of_decide_eq_true h⟩
  · cases h
def scB (sc : Scope) : Bool := decide (sc.kind = .function) && ((!sc.isCoroutine) && ((!sc.isGenerator) && ((sc.names.all fun x => x.2 != .cell) && (decide (sc.names.lookup ("super" : Str) = some .globalImplicit) && (decide (sc.names.lookup ("__class__" : Str) = some .free) && (decide (sc.names.lookup ("self" : Str) = some .local) && decide (sc.names.lookup ("value" : Str) = some .local)))))))
def fdB (K : PySem.W.Frag) (fl : Str) (C : Addr) : FuncData → Bool
  | ⟨nm, qual, ⟨[], [⟨a1, none, p1⟩, ⟨a2, none, p2⟩], none, [], [], none, []⟩, .stmts [.Expr (.Call (.Attribute (.Call (.Name s1 q0) [] [] q1) s2 q2) [.Constant (.str z) j q3] [] q4) q5, .Assign [.Attribute (.Name s3 r0) s4 r1] (.Name s5 r2) r3], sc, gl, [(cn, cc)], .none, kV, doc, pm, an, .ref cda, ct, bn⟩ =>
    (decide (nm = "__init__") && (decide (a1 = "self") && (decide (a2 = "value") && (decide (s1 = "super") && (decide (s2 = "__init__") && (decide (s3 = "self") && (decide (s4 = "value") && (decide (s5 = "value") && (decide (cn = "__class__") && (decide (gl = mainGlobals) && decide (bn = builtinsNs))))))))))) &&
    (PySem.W.codeIn K (.ref cda) qual && ((q2.endLine == q4.line) && (scB sc && (flB K fl cda && ceB K C cc))))
  | _ => false
theorem fdB_ok {K : PySem.W.Frag} {fl : Str} {C : Addr} {fd : FuncData} (h : fdB K fl C fd = true) : ∃ (cc cda : Addr) (qual z : Str) (j : Nat) (q0 q1 q2 q3 q4 q5 r0 r1 r2 r3 p1 p2 : Pos) (sc : Scope) (kV doc pm ct : Value) (an : Option Addr),
    fd = xcFn qual (xcBody z j q0 q1 q2 q3 q4 q5 r0 r1 r2 r3) (xcPar p1 p2) sc kV doc pm an cda ct cc ∧ PySem.W.codeIn K (.ref cda) qual = true ∧ (q2.endLine == q4.line) = true ∧ scB sc = true ∧ flB K fl cda = true ∧ ceB K C cc = true := by
  unfold fdB at h
  split at h
  · simp only [Bool.and_eq_true, decide_eq_true_eq] at h
    obtain ⟨⟨rfl, rfl, rfl, rfl, rfl, rfl, rfl, rfl, rfl, rfl, rfl⟩, h1, h2, h3, h4, h5⟩ := h
    exact ⟨_, _, _, _, _, _, _, _, _, _, _, _, _, _, _, _, _, _, _, _, _, _, _, rfl, h1, h2, h3, h4, h5⟩
  · cases h
def inB (K : PySem.W.Frag) (fl : Str) (C : Addr) : Bool := match PySem.W.findIn K (.ref C) "__init__" with
  | some (some (.ref fI)) => decide (PySem.W.typeIn K (.ref fI) = some (.type "function")) && (match K.lookup fI with
    | some ⟨_, _, .func fd, _⟩ => fdB K fl C fd
    | _ => false)
  | _ => false
/-- the class is one whose instances are made and raised as XcC tells -/
def xcB (K : PySem.W.Frag) (fl : Str) (c : Str) : Bool := let C := He.ga K c
  xclB K C && (decide (PySem.W.findIn K (.ref C) "__setattr__" = some (some (.builtin "object.__setattr__"))) && (decide (PySem.W.typeIn K (.ref C) = some (.type "type")) && (PySem.W.keepIn K (.ref C) && (inB K fl C && (upB K C &&
    (decide (PySem.W.mroIn K C (.ref C) = some true) && (decide (PySem.W.subIn K (.ref C) (.type "ValueError") = some true) && (decide (PySem.W.nsIn K cStatics "thirdparty.any" = some none) && (decide (PySem.W.findIn K (.ref C) "value" = some none) && xfB K C)))))))))
theorem xcB_ok {K : PySem.W.Frag} {fl c : Str} (h : xcB K fl c = true) : XcC K fl (He.ga K c) ∧ XfC K (He.ga K c) := by
  unfold xcB at h
  simp only [Bool.and_eq_true, decide_eq_true_eq] at h
  obtain ⟨h1, h2, h3, h4, h5, h6, h7, h8, h9, h10, h11⟩ := h
  have xf := xfB_ok h11
  refine ⟨⟨⟨xclB_ok h1, h2, xf.exC, h3, h4⟩, ?_, h7, h8, h9, h10⟩, xf⟩
  unfold inB at h5
  split at h5
  · rename_i fI e1
    obtain ⟨e2, h5⟩ := Bool.and_eq_true_iff.mp h5
    have e2 := of_decide_eq_true e2
    split at h5
    · rename_i oc od fd osl e3
      obtain ⟨cc, cda, qual, z, j, q0, q1, q2, q3, q4, q5, r0, r1, r2, r3, p1, p2, sc, kV, doc, pm, ct, an, rfl, k1, k2, k3, k4, k5⟩ := fdB_ok h5
      obtain ⟨ccl, cdd, vs, ccs, tf, l1, l2⟩ := flB_ok k4
      obtain ⟨cl, cld, csl, l3⟩ := ceB_ok k5
      obtain ⟨cd, u1, u2⟩ := upB_ok h6
      unfold scB at k3
      simp only [Bool.and_eq_true, decide_eq_true_eq, Bool.not_eq_true'] at k3
      obtain ⟨s1, s2, s3, s4, s5, s6, s7, s8⟩ := k3
      exact ⟨fI, cc, cda, qual, z, j, q0, q1, q2, q3, q4, q5, r0, r1, r2, r3, p1, p2, sc, kV, doc, pm, ct, oc, cl, ccl, an, od, cld, cdd, osl, csl, ccs, vs, tf, cd, e1, e2, e3, k1, k2, s1, s2, s3, s4, s5, s6, s7, s8, l1, l2, l3, u1, u2⟩
    · cases h5
  · cases h5
/-- .. in an except suite -/
theorem huM {k : Nat} {A : Around} {v : Option Value} (h : Room k A) : (A.mark v).units + 64 < cLine := by
  have z : A.units + 64 < cLine := hu_of h
  exact z
instance kx_def [KC] {CX : CXT} {P : Program} {w : World} {mg : Str → Option Value} {base : Heap} {N : List Str} {qual : Str} {scope : Scope} {f : Addr} {cd : Value} {A : Around} {outer : List Env} {s : Shared} {H : Hp} {E : XK} : KX (cxOf CX P w KC.K mg base N qual scope f cd A outer s H E) := ⟨rfl⟩
/-- what the walk asks of the program -/
structure XP (P : Program) (fl : Str) : Prop where
  pf : ((P.main.file : Str) == fl) = true
  pt : (P.main.scope.names.lookup ("super" : Str)).isSome = false
theorem ksN {p : Str → Prop} : ∀ k, ([] : List Str).contains k = true → p k := fun k h => by cases h
theorem ksC {p : Str → Prop} {a : Str} {l : List Str} (h : p a) (t : ∀ k, l.contains k = true → p k) : ∀ k, (a :: l).contains k = true → p k := fun k z => by
  rw [List.contains_cons] at z
  rcases Bool.or_eq_true_iff.mp z with z | z
  · rw [beq_iff_eq.mp z]; exact h
  · exact t k z
end IX

/-! text IX40 -/
set_option maxHeartbeats 2000000
/-! The look at the written part, with the statics' dict. -/
namespace IX
open PySem PySem.Spec PyProof.Rows L2
def asY (g : Addr → Option Obj) (n : Nat) : List Addr := cStatics :: He.asD g n
def obsY (n : Nat) (fa : List He.Fa) (fn : List He.DefD) (ts : List He.Tab) (ex : PySem.W.Frag → Bool) (g : Addr → Option Obj) : He.AlX := (He.obsT fa fn ts (He.frT g (asY g n)), ex (He.frT g (asY g n)))
theorem saysY_of {n : Nat} {fa : List He.Fa} {fn : List He.DefD} {ts : List He.Tab} {ex : PySem.W.Frag → Bool} {w : World} {h : Heap} (e : obsY n fa fn ts ex h.get? = He.valX fn ts w) : He.SaysX fa fn ts [] ex w h (He.frT h.get? (asY h.get? n)) := by
  have e1 : He.obsT fa fn ts (He.frT h.get? (asY h.get? n)) = He.valT fn ts w := congrArg (fun z : He.AlX => z.1) e
  have e2 : ex (He.frT h.get? (asY h.get? n)) = true := congrArg (fun z : He.AlX => z.2) e
  exact ⟨e1, e2, (fun p hp => by cases hp), (fun p hp => by cases hp), (fun p hp => by cases hp)⟩
def hookY (n : Nat) (fa : List He.Fa) (fn : List He.DefD) (ts : List He.Tab) (ex : PySem.W.Frag → Bool) : PySem.W.Hook where
  α := He.AlX
  obs := fun s => obsY n fa fn ts ex s.heap.get?
  val := fun w => He.valX fn ts w
  says := fun w h => ∃ K : PySem.W.Frag, K.In h ∧ He.SaysX fa fn ts [] ex w h K
  of := fun _ _ e => ⟨_, He.frT_in, saysY_of e⟩
  keeps := fun _ _ _ ⟨K, hK, c⟩ k => ⟨K, PySem.W.Frag.In.keeps hK k, ⟨c.t, c.more, c.hd, c.out, fun p hp => k _ _ (c.empty p hp)⟩⟩
theorem obsY_eq {n : Nat} {fa : List He.Fa} {fn : List He.DefD} {ts : List He.Tab} {ex : PySem.W.Frag → Bool} {g : Addr → Option Obj} {s : Shared} (h : ∀ a, g a = s.heap.get? a) : obsY n fa fn ts ex g = (hookY n fa fn ts ex).obs s := by
  have e : g = s.heap.get? := funext h
  rw [e] <;> rfl
end IX

/-! text IX41 -/
set_option maxHeartbeats 2000000
/-! What raises, read. -/
namespace IX
open PySem
section
variable {env : SEnv} {x y : EvS} {ea : EvE} {eb : EvB} {i : Nat} {c : Str} {ks : List Str} {d : PyData} {b : Bool}
@[simp] theorem e_xOk : xOk x env = (match x env with
  | some (.ret r e) => if r.exc.isNone = true then some (.ret r e) else none
  | o => o) := rfl
@[simp] theorem e_xRaise : xRaise c eb env = (eb env).map fun q => .ret (exR c q.1) q.2 := rfl
@[simp] theorem e_xDropR : xDropR ea env = (ea env).map fun p => if p.1.exc.isSome = true then .ret p.1 p.2 else .nxt p.2 := rfl
@[simp] theorem e_xSetR : xSetR i ea env = (ea env).bind fun p => if p.1.exc.isSome = true then some (.ret p.1 p.2) else (stS i p.1 p.2).map .nxt := rfl
@[simp] theorem exc_exS : (Slot.ext b 5 (exS c d)).exc = some (c, d) := rfl
@[simp] theorem e_xTry : xTry ks i x y env = (match x env with
  | some (.ret r e) => match r.exc with
    | none => some (.ret r e)
    | some p => if ks.contains p.1 = true then (stS i (.ext false 4 (exS p.1 p.2)) e).bind fun e2 => (y e2).map (undO i) else none
  | o => o) := rfl
theorem e_held (h : env[i]? = some (.ext b 4 (exS c d))) : heldAt env i = some (c, d) := by unfold heldAt; rw [h]; rfl
@[simp] theorem e_exV : evExV ks i env = ((heldAt env i).bind fun p => if ks.contains p.1 = true then some (p.2, env) else none) := rfl
end
end IX

/-! text IX42 -/
set_option maxHeartbeats 2000000
/-! isinstance of a held exception; list.count, list.index. -/
namespace IX
open PySem PySem.Spec PyProof.Rows L2
/-- what the class C must say, so that isinstance asks its instances rightly -/
structure IcC (K : PySem.W.Frag) (C : Addr) : Prop where
  cl : (PySem.W.clsIn K C).isSome = true
  ga : PySem.W.findIn K (.ref C) "__getattribute__" = some (some (.builtin "BaseException.__getattribute__"))
  gg : PySem.W.findIn K (.ref C) "__getattr__" = some none
  bs : PySem.W.subIn K (.ref C) (.type "BaseException") = some true
  ha : PySem.W.findIn K (.ref C) "__class__" = some (some (.builtin "object.__class__"))
  hn : PySem.W.specialIn K (.builtin "object.__class__") "__get__" = some (some (.builtin "getset_descriptor.__get__"))
  ht : PySem.W.takesIn K (.builtin "object.__class__") = some true
  hm : PySem.W.mroIn K C (.type "object") = some true
def icB (K : PySem.W.Frag) (C : Addr) : Bool := (PySem.W.clsIn K C).isSome && (decide (PySem.W.findIn K (.ref C) "__getattribute__" = some (some (.builtin "BaseException.__getattribute__"))) && (decide (PySem.W.findIn K (.ref C) "__getattr__" = some none) && (decide (PySem.W.subIn K (.ref C) (.type "BaseException") = some true) &&
  (decide (PySem.W.findIn K (.ref C) "__class__" = some (some (.builtin "object.__class__"))) && (decide (PySem.W.specialIn K (.builtin "object.__class__") "__get__" = some (some (.builtin "getset_descriptor.__get__"))) && (decide (PySem.W.takesIn K (.builtin "object.__class__") = some true) && decide (PySem.W.mroIn K C (.type "object") = some true)))))))
theorem icB_ok {K : PySem.W.Frag} {C : Addr} (h : icB K C = true) : IcC K C := by
  unfold icB at h
  simp only [Bool.and_eq_true, decide_eq_true_eq] at h
  obtain ⟨h1, h2, h3, h4, h5, h6, h7, h8⟩ := h
  exact ⟨h1, h2, h3, h4, h5, h6, h7, h8⟩
def rIsX (K : PySem.W.Frag) : List V → Hp → VK → Prop := fun xs H Q => ∃ (a dx D : Addr) (c : V) (cv : Value) (fs : List (Str × V)) (b : Bool), xs = [.ref a, c] ∧ H a = some (ExZ (.ref D) dx a) ∧ H dx = some (.xd fs) ∧ IcC K D ∧ ClsV c cv ∧ PySem.W.kitOne K (.ref D) cv = some b ∧ Q (.bl b) H
def rIsXT (K : PySem.W.Frag) : List V → Hp → VK → Prop := fun xs H Q => ∃ (a dx D tp : Addr) (cs : List V) (us : List Value) (fs : List (Str × V)) (b : Bool), xs = [.ref a, .ref tp] ∧ H a = some (ExZ (.ref D) dx a) ∧ H dx = some (.xd fs) ∧ IcC K D ∧ H tp = some (.tup cs) ∧ Paired ClsV cs us ∧ PySem.W.kitAny K (.ref D) us = some b ∧ Q (.bl b) H
section
variable {X : Cx}
theorem exc_inst {pins : List (Addr × Obj)} {s : Shared} {σ : L2.St} {H : Hp} {a dx D : Addr} {fs : List (Str × V)} (I : Inv X pins σ H s) (ha : H a = some (ExZ (.ref D) dx a)) (ea : H dx = some (.xd fs)) : ∃ oe od, PySem.W.InstAt s.heap a oe D (some od) := by
  obtain ⟨⟨oe, vs, ga, zc, zd, hd⟩, _, _⟩ := I.hok a _ ha
  have hx : ObjOk X.prog X.w H s.heap dx (.xd fs) := I.hok dx _ ea
  obtain ⟨mA, hns, hr⟩ := hx
  obtain ⟨od, ho, hl⟩ := lookIn_ns hns
  exact ⟨oe, od, ga, zc, by unfold PySem.W.notCls; rw [hd] <;> rfl, by rw [zd]; exact ho⟩
theorem call_isX : CallR X (.builtin "isinstance") (rIsX X.K) := by
  intro pins s σ H xs us Q I r h
  obtain ⟨a, dx, D, c, cv, fs, b, rfl, ha, ea, C, k, e, q⟩ := h
  obtain ⟨u1, u2, rfl, r1, r2⟩ := vals2 r
  cases (show u1 = Value.ref a from r1)
  have e2 := k.eq r2
  subst e2
  obtain ⟨oe, od, J⟩ := exc_inst I ha ea
  exact PySem.W.kia_one (PySem.W.kitx_exc C.cl C.ga C.gg C.bs C.ha C.hn C.ht C.hm) I.kIn J e (fun z => nomatch z) fun tk => ⟨.bl b, H, I.tok tk, rfl, q⟩
theorem call_isXT : CallR X (.builtin "isinstance") (rIsXT X.K) := by
  intro pins s σ H xs us Q I r h
  obtain ⟨a, dx, D, tp, cs, ws, fs, b, rfl, ha, ea, C, hT, k, e, q⟩ := h
  obtain ⟨u1, u2, rfl, r1, r2⟩ := vals2 r
  cases (show u1 = Value.ref a from r1)
  cases (show u2 = Value.ref tp from r2)
  obtain ⟨oe, od, J⟩ := exc_inst I ha ea
  obtain ⟨_, its, rv, o, h1, h2, n, h3⟩ := (show ObjOk X.prog X.w H s.heap tp (.tup cs) from I.hok tp _ hT)
  have e3 := ClsV.all k rv
  subst e3
  obtain ⟨oc, od2, dt, sl⟩ := o
  simp only at h2 h3
  subst h2 h3
  exact PySem.W.kia_tup (PySem.W.kitx_exc C.cl C.ga C.gg C.bs C.ha C.hn C.ht C.hm) I.kIn J h1 e (fun z => nomatch z) fun tk => ⟨.bl b, H, I.tok tk, rfl, q⟩
end
variable [KC]
/-- a name that means a class -/
def ClsN (X : Cx) (x : Str) (p : Pos) (cv : Value) : Prop := ∃ c, ClsV c cv ∧ PE X (.Name x p) (tC c)
theorem clsN_own {X : Cx} {x : Str} {p : Pos} {C : Addr} (hg : Gl X x) (hm : X.mg x = some (.ref C)) (hd : (x == ("__debug__" : Str)) = false := by decide) : ClsN X x p (.ref C) := ⟨.ref C, .own C, pe_glob hg hm rfl hd⟩
theorem clsN_ty {X : Cx} {x : Str} {p : Pos} {T : String} (hg : Gl X x) (hm : X.mg x = none) (hv : bootBuiltins x = some (.type T)) (hn : x ≠ "__name__" := by decide) (hd : (x == ("__debug__" : Str)) = false := by decide) : ClsN X x p (.type T) := ⟨.ty T, .ty T, pe_bltn hg hm hv rfl hn hd⟩
def evIsX (tab : List (Str × Bool)) (i : Nat) : EvB := fun env => (heldAt env i).bind fun p => (tab.lookup p.1).map fun b => (.bool b, env)
section
variable {X : Cx} [hx : KX X] {x y : Str} {i : Nat} {p p2 p3 pos : Pos} {tab : List (Str × Bool)} {cv : Value}
theorem sp_isX (hg : Gl X "isinstance") (hm : X.mg "isinstance" = none) (h : PE X (.Name x p2) (tVar i)) (hc : ClsN X y p3 cv) (hk : ∀ k b, tab.lookup k = some b → IcC KC.K (He.ga KC.K k) ∧ PySem.W.kitOne KC.K (excA k) cv = some b)
    (he : starEach [.Name x p2, .Name y p3] X.env = (false, eval (.Name x p2) X.env) :: starEach [.Name y p3] X.env := by rfl) (he2 : starEach [.Name y p3] X.env = (false, eval (.Name y p3) X.env) :: starEach [] X.env := by rfl) (hpl : (backTo pos (starEach [.Name y p3] X.env)).any (·.1) = false := by rfl) :
    SP E0 X (.Call (.Name "isinstance" p) [.Name x p2, .Name y p3] [] pos) true (evIsX tab i) := ⟨fun fr => by
  obtain ⟨c, hcv, hpc⟩ := hc
  refine (pe_callB call_isX hg hm PyProof.Rows.boot_isinstance (pa_cons h (pa_cons hpc pa_nil he2) he) (by decide) (by decide) he hpl).weak fun σ H Q ⟨F, ow, env, d, env', R, ee, k⟩ => ?_
  obtain ⟨q, h1, ee⟩ := bind2 ee
  obtain ⟨b, h2, ee⟩ := Option.map_eq_some_iff.mp ee
  cases ee
  obtain ⟨a, dx, u, hv, _, _, h3, h4, rv⟩ := R.held h1
  obtain ⟨ic, kb⟩ := hk _ _ h2
  refine ⟨_, hv, a, dx, He.ga KC.K q.1, c, cv, _, b, rfl, h3, h4, by rw [hx.eq]; exact ic, hcv, by rw [hx.eq]; exact kb, ?_⟩
  exact k _ F H ow R Grow.refl (fun _ => Ex.refl _) (.bl b)⟩
/-- several names of classes -/
def ClsNs (X : Cx) : List Expr → List Value → Prop
  | [], [] => True
  | .Name y p :: es, cv :: us => ClsN X y p cv ∧ starEach (.Name y p :: es) X.env = (false, eval (.Name y p) X.env) :: starEach es X.env ∧ ClsNs X es us
  | _, _ => False
def tCs : List V → TA := fun vs _ H Q => Q vs H
theorem pa_cls : ∀ {es : List Expr} {us : List Value}, ClsNs X es us → ∃ cs, Paired ClsV cs us ∧ PA X es (tCs cs)
  | [], [], _ => ⟨[], .nil, ⟨fun _ _ _ _ H Q I h => Calls.spliced_nil ⟨[], H, I, .nil, h⟩⟩⟩
  | [], _ :: _, h => h.elim
  | .Name y p :: es, cv :: us, ⟨⟨c, hcv, hp⟩, hs, ht⟩ => by
    obtain ⟨cs, pr, hr⟩ := pa_cls ht
    exact ⟨c :: cs, .cons hcv pr, ⟨fun pos pins s σ H Q I h => (pa_cons hp hr hs).run pos pins s σ H Q I h⟩⟩
  | .Name _ _ :: _, [], h => h.elim
theorem sp_isXT {es : List Expr} {us : List Value} {j : Nat} {pt : Pos} (hg : Gl X "isinstance") (hm : X.mg "isinstance" = none) (h : PE X (.Name x p2) (tVar i)) (hc : ClsNs X es us) (hl : us.length ≤ sizeLine) (hk : ∀ k b, tab.lookup k = some b → IcC KC.K (He.ga KC.K k) ∧ PySem.W.kitAny KC.K (excA k) us = some b)
    (he : starEach [.Name x p2, .Tuple es j pt] X.env = (false, eval (.Name x p2) X.env) :: starEach [.Tuple es j pt] X.env := by rfl) (he2 : starEach [.Tuple es j pt] X.env = (false, eval (.Tuple es j pt) X.env) :: starEach [] X.env := by rfl) (hpl : (backTo pos (starEach [.Tuple es j pt] X.env)).any (·.1) = false := by rfl) :
    SP E0 X (.Call (.Name "isinstance" p) [.Name x p2, .Tuple es j pt] [] pos) true (evIsX tab i) := ⟨fun fr => by
  obtain ⟨cs, pr, hpc⟩ := pa_cls hc
  have lcs : cs.length = us.length := by
    clear hpc hc hl hk
    induction pr with
    | nil => rfl
    | cons _ _ ih => rw [List.length_cons, List.length_cons, ih]
  refine (pe_callB call_isXT hg hm PyProof.Rows.boot_isinstance (pa_cons h (pa_cons (pe_tup hpc) pa_nil he2) he) (by decide) (by decide) he hpl).weak fun σ H Q ⟨F, ow, env, d, env', R, ee, k⟩ => ?_
  obtain ⟨q, h1, ee⟩ := bind2 ee
  obtain ⟨b, h2, ee⟩ := Option.map_eq_some_iff.mp ee
  cases ee
  obtain ⟨a, dx, u, hv, _, _, h3, h4, rv⟩ := R.held h1
  obtain ⟨ic, kb⟩ := hk _ _ h2
  refine ⟨_, hv, by rw [lcs]; exact hl, fun t ht => ?_⟩
  have al : Alloc F H F (upd H t (.tup cs)) := Alloc.tmp R.fh ht
  have na : a ≠ t := fun z => by subst z; rw [ht] at h3; cases h3
  have nd : dx ≠ t := fun z => by subst z; rw [ht] at h4; cases h4
  refine ⟨a, dx, He.ga KC.K q.1, t, cs, us, _, b, rfl, by rw [upd_ne na]; exact h3, by rw [upd_ne nd]; exact h4, by rw [hx.eq]; exact ic, upd_same, pr, by rw [hx.eq]; exact kb, ?_⟩
  exact k _ F _ ow (R.alloc al) (al.grow R) (fun _ => al.h) (.bl b)⟩
end
/-! list.count, list.index -/
theorem boolsD_rp {F : Hp} {vs : List V} {ds : List PyData} {bs : List Bool} (r : RpA F vs ds) (h : boolsD ds = some bs) : vs = bs.map V.bl := by
  rw [boolsD_map h] at r
  exact RpA.of_bools r
def rCntB (K : PySem.W.Frag) : V → List V → Hp → VK → Prop := fun x xs H Q => ∃ (p : Addr) (bs : List Bool) (k : Bool), x = .ref p ∧ xs = [.bl k] ∧ SqL K H p (bs.map V.bl) ∧ Q (.int (bs.count k : Nat)) H
theorem isB_gives (k : Bool) : ∀ {us : List Value} {bs : List Bool}, Vals (bs.map V.bl) us → (∀ y ∈ us, ∀ (A : Around) (s : Shared), SeqAt.EqAt A s y (.bool k) (isBoolOf k y)) ∧ us.countP (isBoolOf k) = bs.count k
  | _, [], .nil => ⟨fun y hy => (by cases hy), rfl⟩
  | u :: us, b :: bs, .cons r t => by
    cases (show u = Value.bool b from r)
    obtain ⟨h1, h2⟩ := isB_gives k t
    refine ⟨fun y hy A s => ?_, ?_⟩
    · rcases List.mem_cons.mp hy with rfl | hy
      · exact SeqAt.EqAt.bool_bool b k
      · exact h1 y hy A s
    · rw [List.countP_cons, List.count_cons, h2]; rfl
theorem mt_countB {X : Cx} : MtR X "list.count" (rCntB X.K) := by
  intro pins s σ H x xs v us Q I rx rxs h
  obtain ⟨p, bs, k, rfl, rfl, hs, q⟩ := h
  cases rx
  obtain ⟨u, rfl, ru⟩ := rxs.one
  cases (show u = Value.bool k from ru)
  obtain ⟨its, rv, ⟨⟨cls, dd, data, sl⟩, n, ho, hc, hdn, hd⟩, hlen⟩ := I.list hs
  simp only at hc hd
  subst hc hd
  obtain ⟨g1, g2⟩ := isB_gives k rv
  refine call_meets PySem.F.slot_list_count ⟨_, ho, rfl⟩ PySem.F.entry_list_count (PySem.F.args_list_count_2 _ _)
    (SeqAt.list_countAt p its.toArray n dd sl (.bool k) (isBoolOf k)) ⟨ho, fun y hy => g1 y (by simpa using hy) _ _, ?_⟩
  refine ⟨.int (bs.count k : Nat), H, I.tok _, ⟨s.toks, ?_⟩, q⟩
  show Value.int ((its.toArray.toList.countP (isBoolOf k) : Nat) : Int) s.toks = Value.int ((bs.count k : Nat) : Int) s.toks
  rw [show its.toArray.toList = its from rfl, g2]
theorem idx_lt_ne {k : Bool} : ∀ {bs : List Bool} {m : Nat}, m < bs.idxOf k → ∀ h : m < bs.length, bs[m] ≠ k
  | b :: bs, m, h, hl => by
    rw [List.idxOf_cons] at h
    by_cases c : (b == k) = true
    · rw [c] at h; simp at h
    · have c' : (b == k) = false := by simpa using c
      rw [c'] at h
      cases m with
      | zero => simpa using c
      | succ m =>
        show bs[m]'(by simpa using hl) ≠ k
        exact idx_lt_ne (bs := bs) (by simpa using h) (by simpa using hl)
def mCount : List PyData → List PyData → Option (PyData × List PyData)
  | ds, [.bool k] => (boolsD ds).map fun bs => (.int (bs.count k : Nat), ds)
  | _, _ => none
def mIndexB : List PyData → List PyData → Option (PyData × List PyData)
  | ds, [.bool k] => (boolsD ds).bind fun bs => if bs.contains k = true ∧ SeqAt.shaped (.list ds) = true then some (.int (bs.idxOf k : Nat), ds) else none
  | _, _ => none
theorem upd_self {H : Hp} {p : Addr} {o : HO} (h : H p = some o) : upd H p o = H := by
  funext a
  by_cases z : a = p
  · subst z; rw [upd_same, h]
  · rw [upd_ne z]
section
variable {X : Cx} [hx : KX X]
theorem mu_count : MutV X "list.count" mCount := .of mt_countB fun xs H Q F l vs ds as d ds' ex hl r ra hf k => by
  unfold mCount at hf
  split at hf
  · obtain ⟨bs, h1, h2⟩ := Option.map_eq_some_iff.mp hf
    cases h2
    cases ra with
    | cons a t =>
      cases t
      cases a
      have e := boolsD_rp r h1
      subst e
      refine ⟨l, bs, _, rfl, rfl, SqL.of hl, ?_⟩
      have := k (.int (bs.count _ : Nat)) _ (.int _) r
      rw [upd_self hl] at this
      exact this
  · cases hf
theorem mu_indexB (hu : X.A.units + 65 < cLine) : MutV X "list.index" mIndexB := .of (mt_indexD hu) fun xs H Q F l vs ds as d ds' ex hl r ra hf k => by
  unfold mIndexB at hf
  split at hf
  · rename_i kb
    obtain ⟨bs, h1, h2⟩ := bind2 hf
    split at h2
    · rename_i z
      cases h2
      cases ra with
      | cons a t =>
        cases t
        cases a
        have ed := boolsD_map h1
        have hm : kb ∈ bs := by simpa using z.1
        have hlt : bs.idxOf kb < bs.length := List.idxOf_lt_length_of_mem hm
        refine ⟨l, _, .bool kb, ds, bs.idxOf kb, .bool kb, rfl, rfl, .lst (by rw [hx.eq]; exact SqL.of hl) ?_, by rw [hx.eq]; exact .bl _, z.2, rfl, ?_, ?_, ?_, ?_⟩
        · rw [hx.eq]; exact RpA.dp ds _ (RpA.mono ex ds _ r)
        · rw [ed, List.getElem?_map, List.getElem?_eq_getElem hlt]
          simp
        · rw [PyData.eqv]; simp
        · intro m z' hmj hz
          rw [ed, List.getElem?_map] at hz
          obtain ⟨b, hb, rfl⟩ := Option.map_eq_some_iff.mp hz
          rw [PyData.eqv]
          obtain ⟨hml, rfl⟩ := List.getElem?_eq_some_iff.mp hb
          have := idx_lt_ne hmj hml
          simpa using this
        · have := k (.int (bs.idxOf kb : Nat)) _ (.int _) r
          rw [upd_self hl] at this
          exact this
    · cases h2
  · cases hf
end
end IX

/-! text IX43 -/
set_option maxHeartbeats 2000000
/-! Defs that are called within an except suite. -/
namespace IX
open PySem PySem.Spec PyProof.Rows L2
structure RoomW (k : Nat) (A : Around) : Prop where
  dp : A.depth + 3 * k + 5 < recursionLimit
  un : A.units + 16 * k + 200 < cLine
theorem RoomW.mono {j k : Nat} {A : Around} (r : RoomW k A) (h : j ≤ k) : RoomW j A := ⟨by have := r.dp; omega, by have := r.un; omega⟩
theorem RoomW.deeper {k : Nat} {A : Around} (r : RoomW (k + 1) A) (env : Env) : RoomW k (A.deeper env) :=
  ⟨by have := r.dp; show A.depth + 1 + 3 * k + 5 < _; omega, by have := r.un; show A.units + 3 + 16 * k + 200 < _; omega⟩
theorem RoomW.mark {k : Nat} {A : Around} {v : Option Value} (r : Room k A) : RoomW k (A.mark v) := ⟨r.dp, r.un⟩
/-- the context of such a def's body -/
abbrev cxW (CX : CXT) (P : Program) (w : World) (K : PySem.W.Frag) (mg : Str → Option Value) (base : Heap) (N : List Str) (qual : Str) (scope : Scope) (f : Addr) (cd : Value) (A : Around) (outer : List Env) (s : Shared) (H : Hp) (E : XK) : Cx :=
  { cxOf CX P w K mg base N qual scope f cd A outer s H E with calm := false }
structure FnW (P : Program) (w : World) (K : PySem.W.Frag) (mg : Str → Option Value) (base : Heap) (CX : CXT) (k : Nat) (f : Addr) (fd : FuncData) (ps : List Str) (sp : Sp) : Prop where
  cnt : ∀ vs H Q E, sp vs H Q E → vs.length = ps.length
  go : ∀ (A : Around) (out : List Env) (s : Shared) (H : Hp) (args : Args) (us : List Value) (vs : List V) (Q : VK) (E : XK), RoomW k A → Env0 P w K mg base A out s H → BindsTo s fd args (ps.zip us) → Vals vs us →
    sp vs H Q E → codeAny (model P w) A (.call (.ref f) args) (CR CX out P w H s Q E) s
theorem FnW.mono {P : Program} {w : World} {K : PySem.W.Frag} {mg : Str → Option Value} {base : Heap} {CX : CXT} {j k : Nat} {f : Addr} {fd : FuncData} {ps : List Str} {sp : Sp} (F : FnW P w K mg base CX j f fd ps sp) (h : j ≤ k) : FnW P w K mg base CX k f fd ps sp := ⟨F.cnt, fun A out s H args us vs Q E r => F.go A out s H args us vs Q E (r.mono h)⟩
section
variable {P : Program} {w : World} {K : PySem.W.Frag} {mg : Str → Option Value} {base : Heap} {x qual : Str} {params : Arguments} {body : List Stmt} {scope : Scope} {dvs : List V} {kws : List (Str × V)} {f : Addr} {fd : FuncData}
theorem env0_mark {A : Around} {out : List Env} {s : Shared} {H : Hp} (e : Env0 P w K mg base A out s H) : Env0 P w K mg base { A with handled := none } out s H := ⟨e.frames, e.mod, e.bs, e.bsz, e.funs, e.frf, e.hok, e.bare⟩
theorem inv_W {CX : CXT} {N ps : List Str} {qual : Str} {scope : Scope} {f : Addr} {cd : Value} {A : Around} {outer : List Env} {s s1 : Shared} {H : Hp} {E : XK} {σ : L2.St} (I : Inv (cxOf CX P w K mg base N qual scope f cd { A with handled := none } outer s H E) [] σ H s1) : Inv (cxW CX P w K mg base N qual scope f cd A outer s H E) [] σ H s1 :=
  have ok := I.ok
  ⟨⟨ok.mod, ok.kind, ok.glob, ok.blt, ok.above, ok.inj, ok.has, ok.cab, (fun z => absurd (show false = true from z) Bool.false_ne_true), ok.frames, ok.stk, ok.exf, ok.bs, ok.bsz, ok.noex, ok.exfs, ok.funs, ok.frf⟩, I.os, I.bare, I.base, I.loc, I.cell, I.free, I.freeC, I.pin, I.hok, I.len⟩
theorem body_endW {CX : CXT} {N : List Str} {cdv : Value} {A : Around} {out : List Env} {s s' : Shared} {H : Hp} {Q : VK} {E : XK} {fl : Flow} (h : L2.SP (cxW CX P w K mg base N qual scope f cdv A out s H E) [] { nx := fun _ H' => Q .non H', rt := Q } fl s') :
    match fl with
    | .ret u => CE out P w H s Q u s'
    | .next => CE out P w H s Q .none s'
    | _ => False := by
  cases fl with
  | ret u => obtain ⟨v, σ1, H1, J, rv, q⟩ := h; exact ⟨v, H1, J.os, J.bare, J.base, J.hok, rv, q⟩
  | next => obtain ⟨σ1, H1, J, q⟩ := h; exact ⟨.non, H1, J.os, J.bare, J.base, J.hok, rfl, q⟩
  | brk => obtain ⟨_, _, _, q⟩ := h; exact q
  | cont => obtain ⟨_, _, _, q⟩ := h; exact q
theorem fnW_of {CX : CXT} {N ps : List Str} {k : Nat} {sp : Sp} (F : FunD K x qual params body scope dvs kws f fd) (S : FnScope N ps scope) (cnt : ∀ vs H Q E, sp vs H Q E → vs.length = ps.length)
    (hb : ∀ (cdv : Value) (A : Around) (out : List Env) (s : Shared) (H : Hp) (vs : List V) (Q : VK) (E : XK), RoomW k (A.deeper (envOfC qual scope s.heap.objs.size f cdv)) → sp vs H Q E →
      ∃ t, PSs (cxW CX P w K mg base N qual scope f cdv A out s H E) body t ∧ t { nx := fun _ H' => Q .non H', rt := Q } (start N vs) H) : FnW P w K mg base CX (k + 1) f fd ps sp := by
  obtain ⟨oc, od, dV, kV, doc, pm, an, cdv, ct, osl, rfl, at_, code, _, _⟩ := F.ex
  refine ⟨cnt, fun A out s H args us vs Q E room e bt rv want => ?_⟩
  have stay : ∀ {b o}, base.get? b = some o → s.heap.get? b = some o := fun z => (e.bs _ _ z).1
  have inK : K.In s.heap := e.mod.kin.keeps fun _ _ z => stay z
  have dp : A.depth < recursionLimit := by have := room.dp; omega
  refine codeAny_call_function dp (inK _ _ at_) rfl S.co S.gen rfl (PySem.W.codeRec_of inK code) (bt _ _ _ _ ?_)
  refine wpAny_newFunctionEnv_cells S.kind (fun p hp => ?_) fun env henv s1 made => ?_
  · rcases S.par p.1 (List.of_mem_zip (a := p.1) (b := p.2) hp).1 with z | z
    · exact .inl z
    · exact .inr ⟨z, PySem.W.cellsFrom_some _ _ _ (.inl z)⟩
  · cases henv
    refine ⟨(e.mod.nolimit.keeps fun _ _ z => stay z).keeps made.toInCall.keep, codeAny_func ?_⟩
    obtain ⟨t, run, start_⟩ := hb cdv A out s H vs Q E (room.deeper _) want
    refine wpAny_mono (run.run [] s1 _ H _ (inv_W (ps := ps) (inv_start S rfl (env0_mark e) (cnt _ _ _ _ want) rv made)) start_) (fun fl s2 h2 => ?_) fun _ _ z => z
    have z := body_endW h2
    cases fl <;> first | exact z | exact z.elim
end
variable [KC]
instance kx_Wn {CX : CXT} {P : Program} {w : World} {mg : Str → Option Value} {base : Heap} {N : List Str} {qual : Str} {scope : Scope} {f : Addr} {cd : Value} {A : Around} {outer : List Env} {s : Shared} {H : Hp} {E : XK} : KX (cxW CX P w KC.K mg base N qual scope f cd A outer s H E).nox := ⟨rfl⟩
instance kx_W {CX : CXT} {P : Program} {w : World} {mg : Str → Option Value} {base : Heap} {N : List Str} {qual : Str} {scope : Scope} {f : Addr} {cd : Value} {A : Around} {outer : List Env} {s : Shared} {H : Hp} {E : XK} : KX (cxW CX P w KC.K mg base N qual scope f cd A outer s H E) := ⟨rfl⟩
section
variable {P : Program} {w : World} {K : PySem.W.Frag} {mg : Str → Option Value} {base : Heap} {E : ExtK}
theorem def_okW {x qual : Str} {params : Arguments} {body : List Stmt} {scope : Scope} {dvs : List V} {kws : List (Str × V)} {f : Addr} {fd : FuncData} {N ps : List Str} {k n : Nat} {xb : EvS} (F : FunD K x qual params body scope dvs kws f fd) (S : FnScope N ps scope) (hn : ps.length = n)
    (hb : ∀ (cdv : Value) (A : Around) (outer : List Env) (s : Shared) (H : Hp) (XE : XK), RoomW k (A.deeper (envOfC qual scope s.heap.objs.size f cdv)) → SSs E (cxW CX0 P w K mg base N qual scope f cdv A outer s H XE).nox body xb) :
    FnW P w K mg base CX0 (k + 1) f fd ps (spI E (runDef N.length xb) n) := by
  refine fnW_of F S (spI_len hn) fun cdv A outer s H vs Q XE hr h => ?_
  obtain ⟨hl, F0, B, ow, args, r, outs, fh, bh, sep, la, ha, hf, k⟩ := h
  let fr : Fra := ⟨F0, H, B, vs⟩
  refine ⟨TSv E fr xb, ((hb cdv A outer s H XE hr).ps fr).nox, ?_⟩
  have nl : n ≤ N.length := by have := congrArg List.length S.pre; rw [List.length_take] at this; omega
  have R : Rel E fr F0 H ow (args ++ List.replicate (N.length - args.length) .und) (L2.start N vs) := by
    refine ⟨fh, Ex.refl _, bh, fun _ _ _ => rfl, fun _ h => h, sep, ?_, fun i s e => ?_, fun i s e p => ?_⟩
    · unfold L2.start
      rw [List.length_append, List.length_append, List.length_replicate, List.length_replicate, List.length_map]
      omega
    · by_cases hi : i < args.length
      · rw [List.getElem?_append_left hi] at e
        obtain ⟨_, v, hv, hs⟩ := ha i s e
        refine .inr ⟨v, ?_, hs⟩
        unfold L2.start
        rw [List.getElem?_append_left (by rw [List.length_map]; omega), List.getElem?_map, hv]
        rfl
      · rw [List.getElem?_append_right (by omega), List.getElem?_replicate] at e
        split at e
        · cases e; exact .inl rfl
        · cases e
    · by_cases hi : i < args.length
      · rw [List.getElem?_append_left hi] at e
        obtain ⟨_, v, hv, hs⟩ := ha i s e
        refine ⟨v, hv, ?_⟩
        unfold L2.start
        rw [List.getElem?_append_left (by rw [List.length_map]; omega), List.getElem?_map, hv]
        rfl
      · rw [List.getElem?_append_right (by omega), List.getElem?_replicate] at e
        split at e
        · cases e; cases p
        · cases e
  have fin : ∀ {F' H' ow' σ' e' v r}, Rel E fr F' H' ow' e' σ' → Ex F0 F' → outsOf args e' = some outs → r.par = false → r ≠ .und → (∃ S : Addr → Prop, (∀ a, S a → ow' a = none ∧ F' a = none ∧ B a = none ∧ H' a ≠ none) ∧ Sl E F' H' S v r) → Ret E F0 H B vs outs F' H' ow' v r := fun {F' H' ow' σ' e' v r} R' f ho np nu rs =>
    ⟨R'.fh, f, R'.bh, R'.fb, R'.dom, R'.sep, fun i s e p => by
      have ee := outsOf_get ho e p
      obtain ⟨v, h1, h2⟩ := R'.pr i s ee p
      rcases R'.sl i s ee with z | ⟨v', h3, h4⟩
      · subst z; cases p
      · rw [h2] at h3; cases h3; exact ⟨v, h1, h4⟩, np, nu, rs⟩
  unfold runDef at hf
  split at hf
  · rename_i r' e' hx
    obtain ⟨os, h1, h2⟩ := Option.map_eq_some_iff.mp hf
    cases h2
    exact ⟨F0, ow, _, _, R, hx, fun v F' H' ow' σ' H0 ow0 R' f rs => k v F' H' ow' (fin R' f h1 rs.1 rs.2.1 (by
      obtain ⟨_, _, S, hS, hs⟩ := rs
      exact ⟨S, fun a sa => ⟨(hS a sa).1, (hS a sa).2.1, (hS a sa).2.2.1, (hS a sa).2.2.2.1⟩, hs⟩))⟩
  · rename_i e' hx
    obtain ⟨os, h1, h2⟩ := Option.map_eq_some_iff.mp hf
    cases h2
    exact ⟨F0, ow, _, _, R, hx, fun F' H' ow' σ' R' f => k .non F' H' ow' (fin R' f h1 rfl (fun z => nomatch z) ⟨fun _ => False, fun _ z => z.elim, .non⟩)⟩
  · cases hf

end

structure FnEW (E : ExtK) (P : Program) (w : World) (K : PySem.W.Frag) (mg : Str → Option Value) (base : Heap) (k : Nat) (x : Str) (params : Arguments) (body : List Stmt) (scope : Scope) (ps : List Str) (f : FSem) : Prop where
  ex : ∃ (fA : Addr) (fd : FuncData), FnW P w K mg base CX0 k fA fd ps (spI E f ps.length) ∧ mg x = some (.ref fA) ∧ FunD K x x params body scope [] [] fA fd
  bd : ∀ (kV doc pm : Value) (an : Option Addr) (cdv ct : Value) (us : List Value), us.length = ps.length → bindArgs (PySem.W.fnOf x x params body scope .none kV doc pm an cdv ct) ⟨us, []⟩ = pure (ps.zip us)
section
variable {X : Cx} {CX : CXT} {k : Nat} {f : Addr} {fd : FuncData} {ps : List Str} {sp : Sp} {E : XK} {x : Str} {p pos : Pos} {e : Expr} {es : List Expr} {t : TA} {pins : List (Addr × Obj)} {σ : L2.St} {H : Hp} {s : Shared} {Q : VK} {us us' : List Value} {vs : List V} {kw : List (Str × Value)}
theorem run_W (F : FnW X.prog X.w X.K X.mg X.base CX k f fd ps sp) (room : RoomW k X.A) (esc : Passes CX X E) (inv : Inv X pins σ H s) (bt : BindsTo s fd ⟨us, kw⟩ (ps.zip us')) (rv : Vals vs us') (want : sp vs H Q E) :
    wpAny (model X.prog X.w) X.A (PySem.call (.ref f) us kw) (EP X pins σ Q) X.xe s := by
  refine wpAny_call (codeAny_mono (F.go X.A X.stack s H ⟨us, kw⟩ us' vs Q E room inv.env0 bt rv want) fun r s2 h2 => ?_)
  rcases r with e2 | (v2 | _ | _ | _)
  · exact esc pins σ H s e2 s2 inv h2
  all_goals first | exact inv.after h2 | exact h2.elim
theorem peW (F : FnW X.prog X.w X.K X.mg X.base CX k f fd ps sp) (room : RoomW k X.A) (gl : Gl X x) (at_ : X.mg x = some (.ref f)) (kp : PySem.W.keepIn X.K (.ref f) = true) (hb : Binds X.K fd ps []) (esc : Passes CX X E) (ha : PA X (e :: es) t)
    (hdb : (x == ("__debug__" : Str)) = false) (he : starEach (e :: es) X.env = (false, eval e X.env) :: starEach es X.env) (hpl : (backTo pos (starEach es X.env)).any (·.1) = false) :
    PE X (.Call (.Name x p) (e :: es) [] pos) (fun σ H Q => t σ H fun vs H1 => sp vs H1 Q E) :=
  ⟨fun pins s σ H Q inv want => wpAny_Call_Name_kw (ld_glob inv gl at_ (PySem.W.callWith_K (h₀ := X.base) inv.ok.mod.kin kp (thn (ha.run pos pins s σ H _ inv want) fun us s1 ⟨vs, H1, i1, rv, q⟩ =>
    ⟨i1.kIn, run_W F room esc i1 (binds_all hb i1 (rv.length.symm.trans (F.cnt _ _ _ _ q))) rv q⟩) he hpl) hdb)⟩
end
section
variable {X : Cx} [KX X] {e : Expr} {es : List Expr} {p pos : Pos} {k j : Nat} {x : Str} {params : Arguments} {body : List Stmt} {scope : Scope} {ps : List Str} {f : FSem}
theorem se_callW {q br : Bool} {ev : EvR} (F : FnEW E X.prog X.w X.K X.mg X.base k x params body scope ps f) (hr : RoomW j X.A) (hk : k ≤ j) (hg : Gl X x) (ha : SAr E X (e :: es) q br ev) (hl : (e :: es).length = ps.length) (hev : ∀ env as env', ev env = some (as, env') → as.length = (e :: es).length)
    (hdb : (x == ("__debug__" : Str)) = false := by decide) (he : starEach (e :: es) X.env = (false, eval e X.env) :: starEach es X.env := by rfl) (hpl : (backTo pos (starEach es X.env)).any (·.1) = false := by rfl) :
    SE E X (.Call (.Name x p) (e :: es) [] pos) (q && !br) (evCall f ev) := ⟨fun fr => by
  obtain ⟨fA, fd, F1, hm, FD⟩ := F.ex
  refine (peW (F1.mono hk) hr hg hm FD.kp (FD.bindsN F.bd) pass0 (ha.pa fr) hdb he hpl).weak fun σ H Q ⟨F, ow, env, r, env', R, ee, k⟩ => ?_
  obtain ⟨as, e1, ss, outs, h1, h2, h3, h4, h5⟩ := evCall_some ee
  refine ⟨F, ow, env, as, e1, R, h1, fun vs F' H' ow' R' g hq aok => ?_⟩
  exact call_core (br := br) R' g hq aok ((hev _ _ _ h1).trans hl) h2 h3 h4 h5 (fun z => ha.nb z _ _ _ h1) k⟩
end
theorem ktN {p : Str → Bool → Prop} : ∀ k b, ([] : List (Str × Bool)).lookup k = some b → p k b := fun k b h => by cases h
theorem ktC {p : Str → Bool → Prop} {a : Str} {b0 : Bool} {l : List (Str × Bool)} (h : p a b0) (t : ∀ k b, l.lookup k = some b → p k b) : ∀ k b, ((a, b0) :: l).lookup k = some b → p k b := fun k b z => by
  rw [List.lookup_cons] at z
  by_cases c : (k == a) = true
  · rw [c] at z
    rw [beq_iff_eq.mp c]
    cases z; exact h
  · have c' : (k == a) = false := by simpa using c
    rw [c'] at z
    exact t k b z
@[simp] theorem e_isX {tab : List (Str × Bool)} {i : Nat} {env : SEnv} : evIsX tab i env = ((heldAt env i).bind fun p => (tab.lookup p.1).map fun b => (.bool b, env)) := rfl
theorem huW {k : Nat} {A : Around} (h : RoomW k A) : A.units + 64 < cLine := by have := h.un; omega
theorem hu65W {k : Nat} {A : Around} (h : RoomW k A) : A.units + 65 < cLine := by have := h.un; omega
end IX

/-! text IX44 -/
set_option maxHeartbeats 2000000
/-! {..}.get(e, n) of three written keys. -/
namespace IX
open PySem PySem.Spec PyProof.Rows L2
section
variable [KC] {E : ExtK} {X : Cx} [KX X] {F H : Hp}
def evD3g (k1 k2 k3 : Str) (v1 v2 v3 n : Int) (ev : EvB) : EvB := fun env => match ev env with
  | some (.str z, env') => some (.int (if z = k1 then v1 else if z = k2 then v2 else if z = k3 then v3 else n), env')
  | _ => none
theorem sp_d3g {k1 k2 k3 : Str} {v1 v2 v3 n : Int} {j1 j2 j3 l1 l2 l3 l4 : Nat} {p1 p2 p3 q1 q2 q3 q4 dpos apos pos : Pos} {e : Expr} {st : Bool} {ev : EvB} (hu : X.A.units + 64 < cLine) (h12 : k1 ≠ k2) (h13 : k1 ≠ k3) (h23 : k2 ≠ k3) (h : SB E X e true st ev)
    (m : M2 X (.Dict [some (.Constant (.str k1) j1 p1), some (.Constant (.str k2) j2 p2), some (.Constant (.str k3) j3 p3)] [.Constant (.int v1) l1 q1, .Constant (.int v2) l2 q2, .Constant (.int v3) l3 q3] dpos) "get" apos e (.Constant (.int n) l4 q4) pos) :
    SP E X (.Call (.Attribute (.Dict [some (.Constant (.str k1) j1 p1), some (.Constant (.str k2) j2 p2), some (.Constant (.str k3) j3 p3)] [.Constant (.int v1) l1 q1, .Constant (.int v2) l2 q2, .Constant (.int v3) l3 q3] dpos) "get" apos) [e, .Constant (.int n) l4 q4] [] pos) true (evD3g k1 k2 k3 v1 v2 v3 n ev) := ⟨fun fr =>
  (pe_dget2 (by omega) (pe_disp (pps_cons pe_str pe_int (pps_cons pe_str pe_int (pps_cons pe_str pe_int pps_nil))) rfl rfl (by simp) (by simp)) (h.pe fr) pe_int m).weak fun σ H Q ⟨F, ow, env, d, env', R, ee, k⟩ => by
    intro p hp
    refine ⟨upd_same, [(.inr k1, .int v1), (.inr k2, .int v2), (.inr k3, .int v3)], rfl, by simp, ?_⟩
    rw [d3_merge h12 h13 h23]
    have ud : ∀ a b : HO, upd (upd H p a) p b = upd H p b := fun a b => by funext x; unfold upd; split <;> rfl
    rw [ud]
    unfold evD3g at ee
    split at ee
    · rename_i z e1 g1
      cases ee
      have al : Alloc F H F (upd H p (.dK [(.inr k1, .int v1), (.inr k2, .int v2), (.inr k3, .int v3)])) := Alloc.tmp R.fh hp
      refine ⟨p, rfl, .inl ⟨_, .inl upd_same⟩, F, ow, env, .str z, _, R.alloc al, g1, fun v F' H' ow' R' g hq rv => ⟨_, .inl ⟨_, .inr z, .inl (hq rfl _ _ upd_same), rv.l.str, rfl⟩, ?_⟩⟩
      have kk := fun i : Int => k (.int i) F' H' ow'
      have ev : ((valV ([(.inr k1, .int v1), (.inr k2, .int v2), (.inr k3, .int v3)] : List (Key × V)) (.inr z)).getD (.int n)) = V.int (if z = k1 then v1 else if z = k2 then v2 else if z = k3 then v3 else n) := by
        by_cases c1 : z = k1
        · rw [valV_pos (by rw [c1]), if_pos c1]; rfl
        · rw [valV_neg (fun e => c1 (Sum.inr.inj e).symm), if_neg c1]
          by_cases c2 : z = k2
          · rw [valV_pos (by rw [c2]), if_pos c2]; rfl
          · rw [valV_neg (fun e => c2 (Sum.inr.inj e).symm), if_neg c2]
            by_cases c3 : z = k3
            · rw [valV_pos (by rw [c3]), if_pos c3]; rfl
            · rw [valV_neg (fun e => c3 (Sum.inr.inj e).symm), if_neg c3]; rfl
      rw [ev]
      exact k _ F' H' ow' R' ((al.grow R).tr g) (fun _ => al.h.tr (hq rfl)) (.int _)
    · cases ee⟩
end
@[simp] theorem e_D3g {k1 k2 k3 : Str} {v1 v2 v3 n : Int} {a : EvB} {env : SEnv} : evD3g k1 k2 k3 v1 v2 v3 n a env = (match a env with
  | some (.str z, env') => some (.int (if z = k1 then v1 else if z = k2 then v2 else if z = k3 then v3 else n), env')
  | _ => none) := rfl
theorem bt_ValueError : bootBuiltins "ValueError" = some (.type "ValueError") := by decide +kernel
end IX

/-! text IX45 -/
set_option maxHeartbeats 1000000
/-! Own runs (a tuple of an own list and data), lists that begin with one. -/
namespace IX
open PySem PySem.Spec PyProof.Rows L2
variable [KC]
def frzA (F : Hp) : List (Addr × HO) → Hp
  | [] => F
  | x :: A => upd (frzA F A) x.1 x.2
theorem frzA_ne {F : Hp} : ∀ {A : List (Addr × HO)} {a : Addr}, a ∉ A.map (·.1) → frzA F A a = F a
  | [], _, _ => rfl
  | x :: A, a, h => by
    rw [List.map_cons, List.mem_cons, not_or] at h
    show upd _ _ _ a = _
    rw [upd_ne h.1]
    exact frzA_ne h.2
theorem frzA_at {F : Hp} : ∀ {A : List (Addr × HO)}, (A.map (·.1)).Nodup → ∀ x ∈ A, frzA F A x.1 = some x.2
  | [], _, _, m => by cases m
  | x :: A, nd, y, m => by
    rw [List.map_cons, List.nodup_cons] at nd
    show upd _ _ _ y.1 = _
    rcases List.mem_cons.mp m with rfl | m
    · exact upd_same
    · rw [upd_ne (fun z => nd.1 (by rw [← z]; exact List.mem_map_of_mem (f := (·.1)) m))]
      exact frzA_at nd.2 y m
theorem frzA_ex {F : Hp} {A : List (Addr × HO)} (h : ∀ x ∈ A, F x.1 = none) : Ex F (frzA F A) := fun a o e => by
  by_cases z : a ∈ A.map (·.1)
  · obtain ⟨x, m, rfl⟩ := List.mem_map.mp z
    rw [h x m] at e
    cases e
  · rw [frzA_ne z]; exact e
theorem frzA_le {F H : Hp} {A : List (Addr × HO)} (f : Ex F H) (nd : (A.map (·.1)).Nodup) (h : ∀ x ∈ A, H x.1 = some x.2) : Ex (frzA F A) H := fun a o e => by
  by_cases z : a ∈ A.map (·.1)
  · obtain ⟨x, m, rfl⟩ := List.mem_map.mp z
    rw [frzA_at nd x m] at e
    cases e
    exact h x m
  · rw [frzA_ne z] at e; exact f a o e
theorem ShX.rp {F : Hp} {t : Nat} {A : List (Addr × HO)} {v : V} {d : PyData} (h : ShX F t A v d) (nd : (A.map (·.1)).Nodup) (fr : ∀ x ∈ A, F x.1 = none) : Rp (frzA F A) v d := by
  have f := frzA_ex fr
  have at_ := frzA_at (F := F) nd
  cases h with
  | @run a p u vs ds e r s =>
    have h1 := at_ (a, .tup [.ref p, u]) (by simp)
    have h2 := at_ (p, .lst vs) (by simp)
    exact .tup (.inl h1) (.cons (.lst h2 (RpA.mono f _ _ r)) (.cons (Rp.mono f _ _ s) .nil))
  | @lst q a p u vs ws ds e es r s w =>
    have h0 := at_ (q, .lst (.ref a :: ws)) (by simp)
    have h1 := at_ (a, .tup [.ref p, u]) (by simp)
    have h2 := at_ (p, .lst vs) (by simp)
    exact .lst h0 (.cons (.tup (.inl h1) (.cons (.lst h2 (RpA.mono f _ _ r)) (.cons (Rp.mono f _ _ s) .nil))) (RpA.mono f _ _ w))
section
variable {E : ExtK} {fr : Fra} {F H F' H' F0 H0 : Hp} {ow ow' ow0 : Ow} {env env' : SEnv} {σ : L2.St} {t : Nat} {S : Addr → Prop} {v : V} {d : PyData}
theorem Rel.frz1 {p : Addr} {o : HO} (R : Rel E fr F H ow env σ) (n : ow p = none) (f : F p = none) (b : fr.B p = none) (h : H p = some o) : Rel E fr (upd F p o) H ow env σ where
  fh := fun a u e => by
    by_cases z : a = p
    · rw [z, upd_same] at e; rw [z, h]; exact e
    · rw [upd_ne z] at e; exact R.fh a u e
  f0 := R.f0.tr (Ex.new f)
  bh := R.bh
  fb := fun a u e => (upd_ne (fun z => by rw [z, b] at e; cases e)).trans (R.fb a u e)
  dom := R.dom
  sep := fun a i e => by
    obtain ⟨h1, h2, h3⟩ := R.sep a i e
    exact ⟨(upd_ne (fun z => by rw [z, n] at e; cases e)).trans h1, h2, h3⟩
  len := R.len
  sl := fun i s e => (R.sl i s e).imp id fun ⟨v, e1, q⟩ => ⟨v, e1, q.mono E (Ex.new f) (fun _ z => z) fun _ _ => rfl⟩
  pr := R.pr
theorem Rel.frzA : ∀ {A : List (Addr × HO)}, (A.map (·.1)).Nodup → (∀ x ∈ A, ow x.1 = none ∧ F x.1 = none ∧ fr.B x.1 = none ∧ H x.1 = some x.2) → Rel E fr F H ow env σ → Rel E fr (frzA F A) H ow env σ
  | [], _, _, R => R
  | x :: A, nd, h, R => by
    rw [List.map_cons, List.nodup_cons] at nd
    obtain ⟨h1, h2, h3, h4⟩ := h x (List.mem_cons_self ..)
    exact (Rel.frzA nd.2 (fun y m => h y (List.mem_cons_of_mem _ m)) R).frz1 h1 ((frzA_ne nd.1).trans h2) h3 h4
theorem Grow.frzA : ∀ {A : List (Addr × HO)}, (A.map (·.1)).Nodup → (∀ x ∈ A, F x.1 = none ∧ (H0 x.1 ≠ none → ow0 x.1 ≠ none)) → Grow F0 H0 ow0 F H ow → Grow F0 H0 ow0 (frzA F A) H ow
  | [], _, _, g => g
  | x :: A, nd, h, g => by
    rw [List.map_cons, List.nodup_cons] at nd
    obtain ⟨h1, h2⟩ := h x (List.mem_cons_self ..)
    exact (Grow.frzA nd.2 (fun y m => h y (List.mem_cons_of_mem _ m)) g).freeze ((frzA_ne nd.1).trans h1) h2
def unwX (t : Nat) (g : PyData) : Option PyData := match g with
  | .dict [(.none, d)] => if 7 ≤ t then some d else none
  | _ => none
theorem unwX_some {g : PyData} (h : unwX t g = some d) : 7 ≤ t ∧ g = wrapS d := by
  unfold unwX at h
  split at h
  · split at h
    · cases h; exact ⟨by assumption, rfl⟩
    · cases h
  · cases h
theorem E0.tree (h : E0.rel t F H S v (wrapS d)) (ht : 7 ≤ t) : ∃ A, Cells H S A ∧ ShX F t A v d := by
  rcases h with ⟨_, _, _, _, _, _, _, eg, _⟩ | ⟨_, _, _, _, _, _, eg⟩ | ⟨_, _, _, _, _, et⟩ | ⟨_, _, et, _⟩ | ⟨_, _, et, _⟩ | ⟨_, _, _, et, _⟩ | ⟨A, d', _, eg, c, s⟩
  · cases eg
  · cases eg
  · omega
  · omega
  · omega
  · omega
  · have : d = d' := by
      have := eg
      simp only [wrapS, PyData.dict.injEq, List.cons.injEq, Prod.mk.injEq] at this
      exact this.1.2
    subst this
    exact ⟨A, c, s⟩
theorem E0.of {A : List (Addr × HO)} (ht : 7 ≤ t) (c : Cells H S A) (s : ShX F t A v d) : E0.rel t F H S v (wrapS d) := .inr (.inr (.inr (.inr (.inr (.inr ⟨A, d, ht, rfl, c, s⟩)))))
end
/-! ### frozen -/
def evFzR (ev : EvE) : EvB := fun env => match ev env with
  | some (.ext false t g, env') => (unwX t g).map fun d => (d, env')
  | _ => none
theorem evFzR_some {ev : EvE} {env env' : SEnv} {d : PyData} (h : evFzR ev env = some (d, env')) : ∃ t, 7 ≤ t ∧ ev env = some (.ext false t (wrapS d), env') := by
  unfold evFzR at h
  split at h
  · rename_i t g e1 he
    obtain ⟨d', h1, h2⟩ := Option.map_eq_some_iff.mp h
    cases h2
    obtain ⟨h3, rfl⟩ := unwX_some h1
    exact ⟨t, h3, he⟩
  · cases h
section
variable {X : Cx} [KX X] {e : Expr} {es : List Expr} {q : Bool} {ev : EvE} {pos : Pos} {k : Nat}
theorem SE.spR (h : SE E0 X e q ev) : SP E0 X e q (evFzR ev) := ⟨fun fr => (h.pe fr).weak fun σ H Q ⟨F, ow, env, d, env', R, ee, k⟩ => by
  obtain ⟨t, ht, e1⟩ := evFzR_some ee
  refine ⟨F, ow, env, _, env', R, e1, fun v F' H' ow' R' g hq rs => ?_⟩
  obtain ⟨_, _, S, hS, hs⟩ := rs
  obtain ⟨A, c, s⟩ := E0.tree hs ht
  have a1 : ∀ x ∈ A, F' x.1 = none := fun x m => (hS _ (c.at_ x m).1).2.1
  refine k v (IX.frzA F' A) H' ow' (R'.frzA c.nd fun x m => ?_) (g.frzA c.nd fun x m => ?_) hq (s.rp c.nd a1)
  · obtain ⟨h1, h2, h3, _, _⟩ := hS _ (c.at_ x m).1
    exact ⟨h1, h2, h3, (c.at_ x m).2⟩
  · obtain ⟨_, h2, _, _, h5⟩ := hS _ (c.at_ x m).1
    exact ⟨h2, h5⟩⟩
/-! ### made -/
def evRun (ev : EvSL) : EvE := fun env => match ev env with
  | some ([.own false ds, .pur e], env') => some (.ext false 7 (wrapS (.tuple [.list ds, e])), env')
  | _ => none
theorem evRun_some {ev : EvSL} {env env' : SEnv} {r : Slot} (h : evRun ev env = some (r, env')) : ∃ ds e, ev env = some ([.own false ds, .pur e], env') ∧ r = .ext false 7 (wrapS (.tuple [.list ds, e])) := by
  unfold evRun at h
  split at h
  · cases h; exact ⟨_, _, by assumption, rfl⟩
  · cases h
theorem se_run {ev : EvSL} (h : SAs E0 X es q ev) : SE E0 X (.Tuple es k pos) q (evRun ev) := ⟨fun fr => (pe_tup (h.pa fr)).weak fun σ H Q ⟨F, ow, env, r, env', R, ee, kk⟩ => by
  obtain ⟨ds, e, h1, rfl⟩ := evRun_some ee
  refine ⟨F, ow, env, _, _, R, h1, fun vs F' H' ow' R' g hq rl => ?_⟩
  cases rl with
  | cons p1 n1 s1 sl1 t1 =>
    cases t1 with
    | cons p2 n2 s2 sl2 t2 =>
      cases t2
      rename_i S1 v1 S2 v2
      obtain ⟨p, us, rfl, sp, hp, ra⟩ := sl1
      refine ⟨by rw [sizeLine_eq]; exact Nat.le_of_ble_eq_true rfl, fun a ha => ?_⟩
      have al := Alloc.tmp (o := .tup [.ref p, v2]) R'.fh ha
      have pa : p ≠ a := fun z => by rw [z, ha] at hp; cases hp
      refine kk (.ref a) F' _ ow' (R'.alloc al) (g.tr (al.grow R')) (fun z => (hq z).tr al.h) ⟨rfl, (fun z => nomatch z), fun b => b = a ∨ b = p, fun b hb => ?_, E0.of (by decide) (A := [(a, .tup [.ref p, v2]), (p, .lst us)]) ⟨by simp [Ne.symm pa], fun x m => ?_⟩ (.run ra sl2)⟩
      · rcases hb with rfl | rfl
        · exact ⟨R'.free ha, R'.fh.non ha, R'.bh.non ha, by rw [upd_same]; exact (fun z => nomatch z), fun z => absurd ha (g.dom _ z)⟩
        · obtain ⟨h1, h2, h3, h4, _, h6⟩ := s1 _ sp
          exact ⟨h1, h2, h3, by rw [upd_ne pa]; exact h4, h6⟩
      · rcases List.mem_cons.mp m with rfl | m
        · exact ⟨.inl rfl, upd_same⟩
        · rcases List.mem_cons.mp m with rfl | m
          · exact ⟨.inr rfl, (upd_ne pa).trans hp⟩
          · cases m⟩
def evLstR (a : EvE) (b : EvA) : EvE := fun env => (a env).bind fun p => match p.1 with
  | .ext false 7 g => (unwX 7 g).bind fun d => (b p.2).bind fun q => if q.1.length + 1 ≤ sizeLine then some (.ext false 8 (wrapS (.list (d :: q.1))), q.2) else none
  | _ => none
theorem evLstR_some {a : EvE} {b : EvA} {env env' : SEnv} {r : Slot} (h : evLstR a b env = some (r, env')) : ∃ d e1 ds, a env = some (.ext false 7 (wrapS d), e1) ∧ b e1 = some (ds, env') ∧ ds.length + 1 ≤ sizeLine ∧ r = .ext false 8 (wrapS (.list (d :: ds))) := by
  obtain ⟨⟨r1, e1⟩, h1, h⟩ := bind2 h
  dsimp only at h
  split at h
  · rename_i g
    obtain ⟨d, h2, h⟩ := bind2 h
    obtain ⟨⟨ds, e2⟩, h3, h⟩ := bind2 h
    split at h
    · rename_i z
      cases h
      obtain ⟨_, rfl⟩ := unwX_some h2
      exact ⟨d, e1, ds, h1, h3, z, rfl⟩
    · cases h
  · cases h
theorem se_lstR {qa qb : Bool} {a : EvE} {b : EvA} (ha : SE E0 X e qa a) (hb : SA E0 X es qb b) (hs : starEach (e :: es) X.env = (false, eval e X.env) :: starEach es X.env := by rfl) : SE E0 X (.List (e :: es) pos) (qa && qb) (evLstR a b) := ⟨fun fr => (pe_lst (pa_cons (ha.pe fr) (hb.pa fr) hs)).weak fun σ H Q ⟨F, ow, env, r, env', R, ee, kk⟩ => by
  obtain ⟨d, e1, ds, h1, h2, hz, rfl⟩ := evLstR_some ee
  refine ⟨F, ow, env, _, e1, R, h1, fun v F1 H1 ow1 R1 g1 q1 r1 => ⟨F1, ow1, e1, ds, env', R1, h2, fun vs F2 H2 ow2 R2 g2 q2 r2 => ⟨by rw [List.length_cons, r2.length]; exact hz, fun l hl => ?_⟩⟩⟩
  obtain ⟨_, _, S, hS, hs⟩ := r1.mono g2
  obtain ⟨A, c, s⟩ := E0.tree hs (by decide)
  cases s with
  | @run a p u us ds0 e0 ra re =>
    have al := Alloc.tmp (o := .lst (.ref a :: vs)) R2.fh hl
    have ca := c.at_ _ (List.mem_cons_self ..)
    have cp := c.at_ (p, .lst us) (by simp)
    have la : l ≠ a := fun z => by subst z; rw [ca.2] at hl; cases hl
    have lp : l ≠ p := fun z => by subst z; rw [cp.2] at hl; cases hl
    have nd := c.nd
    refine kk (.ref l) F2 _ ow2 (R2.alloc al) ((g1.tr g2).tr (al.grow R2)) (fun z => ((q1 (and1 z)).tr (q2 (and2 z))).tr al.h) ⟨rfl, (fun z => nomatch z), fun b => b = l ∨ S b, fun b hb => ?_, E0.of (by decide) (A := (l, .lst (.ref a :: vs)) :: [(a, .tup [.ref p, u]), (p, .lst us)]) ⟨?_, fun x m => ?_⟩ (.lst ra re r2)⟩
    · rcases hb with rfl | hb
      · exact ⟨R2.free hl, R2.fh.non hl, R2.bh.non hl, by rw [upd_same]; exact (fun z => nomatch z), fun z => absurd hl ((g1.tr g2).dom _ z)⟩
      · obtain ⟨h1, h2, h3, h4, h5⟩ := hS _ hb
        exact ⟨h1, h2, h3, by rw [upd_ne (fun z => h4 (by rw [z]; exact hl))]; exact h4, h5⟩
    · rw [List.map_cons, List.nodup_cons]
      exact ⟨by simp [la, lp], nd⟩
    · rcases List.mem_cons.mp m with rfl | m
      · exact ⟨.inl rfl, upd_same⟩
      · have cx := c.at_ x m
        exact ⟨.inr cx.1, (upd_ne (fun z => by rw [z, hl] at cx; cases cx.2)).trans cx.2⟩⟩
end
end IX

/-! text IX46 -/
set_option maxHeartbeats 1000000
/-! Own runs: looked at, appended to. -/
namespace IX
open PySem PySem.Spec PyProof.Rows L2
variable [KC]
def runAt (t : Nat) (env : SEnv) (i : Nat) : Option (Bool × PyData) := match env[i]? with
  | some (.ext b t' g) => if t' = t then (unwX t g).map fun d => (b, d) else none
  | _ => none
theorem runAt_some {t : Nat} {env : SEnv} {i : Nat} {b : Bool} {d : PyData} (h : runAt t env i = some (b, d)) : 7 ≤ t ∧ env[i]? = some (.ext b t (wrapS d)) := by
  unfold runAt at h
  split at h
  · rename_i b' t' g e
    split at h
    · rename_i z
      subst z
      obtain ⟨d', h1, h2⟩ := Option.map_eq_some_iff.mp h
      cases h2
      obtain ⟨h3, rfl⟩ := unwX_some h1
      exact ⟨h3, e⟩
    · cases h
  · cases h
theorem Rel.tree {fr : Fra} {F H : Hp} {ow : Ow} {env : SEnv} {σ : L2.St} {i t : Nat} {b : Bool} {d : PyData} (R : Rel E0 fr F H ow env σ) (h : runAt t env i = some (b, d)) : ∃ v A, σ[i]? = some (some v) ∧ Cells H (fun a => ow a = some i) A ∧ ShX F t A v d := by
  obtain ⟨ht, hi⟩ := runAt_some h
  rcases R.sl i _ hi with z | ⟨v, hv, hr⟩
  · cases z
  · obtain ⟨A, c, s⟩ := E0.tree hr ht
    exact ⟨v, A, hv, c, s⟩
/-! ### the way to the list within -/
inductive PathX : Nat → List (Addr × HO) → V → Addr → Prop
  | run {a p : Addr} {u : V} {vs : List V} : PathX 7 [(a, .tup [.ref p, u]), (p, .lst vs)] (.ref a) p
  | lst {q a p : Addr} {u : V} {vs ws : List V} : PathX 8 [(q, .lst (.ref a :: ws)), (a, .tup [.ref p, u]), (p, .lst vs)] (.ref q) p
theorem PathX.uniq {H : Hp} {t : Nat} {A B : List (Addr × HO)} {v : V} {p q : Addr} (h : PathX t A v p) (g : PathX t B v q) (hA : ∀ x ∈ A, H x.1 = some x.2) (hB : ∀ x ∈ B, H x.1 = some x.2) : q = p := by
  cases h with
  | @run a p u vs =>
    cases g with
    | @run _ q u' vs' =>
      have h1 := hA (a, .tup [.ref p, u]) (by simp)
      have h2 := hB (a, .tup [.ref q, u']) (by simp)
      have e : HO.tup [V.ref p, u] = HO.tup [V.ref q, u'] := Option.some.inj (h1.symm.trans h2)
      injection e with e
      injection (List.cons.inj e).1 with e
      exact e.symm
  | @lst l a p u vs ws =>
    cases g with
    | @lst _ a' q u' vs' ws' =>
      have h1 := hA (l, .lst (.ref a :: ws)) (by simp)
      have h2 := hB (l, .lst (.ref a' :: ws')) (by simp)
      have e : HO.lst (V.ref a :: ws) = HO.lst (V.ref a' :: ws') := Option.some.inj (h1.symm.trans h2)
      injection e with e
      injection (List.cons.inj e).1 with e
      subst e
      have h1 := hA (a, .tup [.ref p, u]) (by simp)
      have h2 := hB (a, .tup [.ref q, u']) (by simp)
      have e : HO.tup [V.ref p, u] = HO.tup [V.ref q, u'] := Option.some.inj (h1.symm.trans h2)
      injection e with e
      injection (List.cons.inj e).1 with e
      exact e.symm
def getR : Nat → PyData → Option (List PyData)
  | 7, .tuple [.list ds, _] => some ds
  | 8, .list (.tuple [.list ds, _] :: _) => some ds
  | _, _ => none
def putR : Nat → PyData → List PyData → PyData
  | 7, .tuple [.list _, e], ds => .tuple [.list ds, e]
  | 8, .list (.tuple [.list _, e] :: es), ds => .list (.tuple [.list ds, e] :: es)
  | _, d, _ => d
theorem ShX.path {F : Hp} {t : Nat} {A : List (Addr × HO)} {v : V} {d : PyData} (h : ShX F t A v d) (nd : (A.map (·.1)).Nodup) : ∃ p vs ds, PathX t A v p ∧ (p, .lst vs) ∈ A ∧ getR t d = some ds ∧ RpA F vs ds ∧
    ∀ vs' ds', RpA F vs' ds' → ∃ B : List (Addr × HO), B.map (·.1) = A.map (·.1) ∧ (∀ x ∈ B, x = (p, .lst vs') ∨ (x ∈ A ∧ x.1 ≠ p)) ∧ ShX F t B v (putR t d ds') := by
  cases h with
  | @run a p u vs ds e r s =>
    refine ⟨p, vs, ds, .run, by simp, rfl, r, fun vs' ds' r' => ⟨[(a, .tup [.ref p, u]), (p, .lst vs')], rfl, fun x m => ?_, .run r' s⟩⟩
    have ap : a ≠ p := fun z => by subst z; simp at nd
    rcases List.mem_cons.mp m with rfl | m
    · exact .inr ⟨by simp, ap⟩
    · exact .inl (by simpa using m)
  | @lst q a p u vs ws ds e es r s w =>
    refine ⟨p, vs, ds, .lst, by simp, rfl, r, fun vs' ds' r' => ⟨[(q, .lst (.ref a :: ws)), (a, .tup [.ref p, u]), (p, .lst vs')], rfl, fun x m => ?_, .lst r' s w⟩⟩
    have ap : a ≠ p := fun z => by subst z; simp at nd
    have qp : q ≠ p := fun z => by subst z; simp at nd
    rcases List.mem_cons.mp m with rfl | m
    · exact .inr ⟨by simp, qp⟩
    · rcases List.mem_cons.mp m with rfl | m
      · exact .inr ⟨by simp, ap⟩
      · exact .inl (by simpa using m)
section
variable {X : Cx} [KX X] {o e : Expr} {es : List Expr} {p pos : Pos} {x : Str} {i j t : Nat}
def tRn (t i : Nat) : TE := fun σ H Q => ∃ v A p, σ[i]? = some (some v) ∧ PathX t A v p ∧ (∀ x ∈ A, H x.1 = some x.2) ∧ Q (.ref p) H
theorem atI0 {v : V} {vs : List V} : atI (v :: vs) 0 = some v := by
  have hl : 0 < (v :: vs).length := Nat.succ_pos _
  unfold atI ixN
  rw [if_pos (by omega), if_pos (by omega)]
  rfl
theorem pe_rn7 {k : Nat} {ip : Pos} (h : PE X (.Name x p) (tVar i)) (hs : PlainIx (.Constant (.int 0) k ip) := by exact fun _ _ => rfl) : PE X (.Subscript (.Name x p) (.Constant (.int 0) k ip) pos) (tRn 7 i) :=
  (pe_ix ix_tup h pe_int hs).weak fun σ H Q ⟨v, A, p, hv, hp, hA, k⟩ => by
    cases hp with
    | @run a p u vs =>
      exact ⟨_, hv, a, _, 0, _, rfl, rfl, .inl (.inl (hA (a, .tup [.ref p, u]) (by simp))), atI0, k⟩
theorem pe_rn8 {k k2 : Nat} {ip ip2 pos2 : Pos} (h : PE X (.Name x p) (tVar i)) (hs : PlainIx (.Constant (.int 0) k ip) := by exact fun _ _ => rfl) (hs2 : PlainIx (.Constant (.int 0) k2 ip2) := by exact fun _ _ => rfl) : PE X (.Subscript (.Subscript (.Name x p) (.Constant (.int 0) k ip) pos) (.Constant (.int 0) k2 ip2) pos2) (tRn 8 i) :=
  (pe_ix ix_tup (pe_ix ix_list h pe_int hs) pe_int hs2).weak fun σ H Q ⟨v, A, p, hv, hp, hA, k⟩ => by
    cases hp with
    | @lst q a p u vs ws =>
      exact ⟨_, hv, q, _, 0, _, rfl, rfl, .inl (.inl (hA (q, .lst (.ref a :: ws)) (by simp))), atI0, a, _, 0, _, rfl, rfl, .inl (.inl (hA (a, .tup [.ref p, u]) (by simp))), atI0, k⟩
def evRnMut (t i : Nat) (f : List PyData → List PyData → Option (PyData × List PyData)) (a : EvA) : EvB := fun env => (runAt t env i).bind fun _ => (a env).bind fun q => (runAt t q.2 i).bind fun o => (getR t o.2).bind fun ds => (f ds q.1).map fun r => (r.1, q.2.set i (.ext o.1 t (wrapS (putR t o.2 r.2))))
theorem sp_rnMut {id : String} {name : Str} {apos : Pos} {a : EvA} {f : List PyData → List PyData → Option (PyData × List PyData)} (h : PE X o (tRn t i)) (pa : PlainAttrs "list") (slot : PySem.Slot "list" name id) (hty : typeOf (.builtin id) = pure (.type "method_descriptor")) (hm : MutV X id f) (ha : SA E0 X (e :: es) true a)
    (hbase : attributeBase o name X.env (eval o X.env) = eval o X.env := by rfl)
    (hfew : ((backTo pos (starEach (e :: es) X.env)).all (fun x => !x.1) && (backToKw pos (keywordEach [] X.env)).all (fun x => x.1.isSome)
      && decide ((e :: es).length + ([] : List Keyword).length + (if ([] : List Keyword).isEmpty then 0 else 1) < 30)) = true := by rfl)
    (hline : (apos.endLine == pos.line) = true := by rfl) (hs : starEach (e :: es) X.env = (false, eval e X.env) :: starEach es X.env := by rfl) (hplain : (backTo pos (starEach es X.env)).any (·.1) = false := by rfl) :
    SP E0 X (.Call (.Attribute o name apos) (e :: es) [] pos) false (evRnMut t i f a) := ⟨fun fr => by
  obtain ⟨r0, hm0, w⟩ := hm
  refine (pe_bm pa slot hty hm0 h (ha.pa fr) hbase hfew hline hs hplain).weak fun σ H Q ⟨F, ow, env, d, env', R, ee, k⟩ => ?_
  obtain ⟨⟨b0, d0⟩, g0, ee⟩ := bind2 ee
  obtain ⟨⟨as, e1⟩, g2, ee⟩ := bind2 ee
  obtain ⟨⟨b, d1⟩, g3, ee⟩ := bind2 ee
  obtain ⟨ds, g4, ee⟩ := bind2 ee
  obtain ⟨⟨d', ds'⟩, g5, ee⟩ := Option.map_eq_some_iff.mp ee
  cases ee
  obtain ⟨v, A, hv, c, s⟩ := R.tree g0
  obtain ⟨p, vs, ds0, s1, s2, s3, s4, _⟩ := s.path c.nd
  have hp := (c.at_ _ s2).2
  refine ⟨v, A, p, hv, s1, fun x m => (c.at_ x m).2, .inl ⟨rfl, vs, SqL.of hp⟩, F, ow, env, as, e1, R, g2, fun xs F' H' ow' R' g hq rx => ?_⟩
  obtain ⟨v', A', hv', c', s'⟩ := R'.tree g3
  rw [hv] at hv'
  cases hv'
  obtain ⟨p', vs', ds1, s1', s2', s3', s4', put⟩ := s'.path c'.nd
  have ep : p' = p := s1.uniq s1' (fun x m => hq rfl _ _ (c.at_ x m).2) (fun x m => (c'.at_ x m).2)
  subst ep
  rw [g4] at s3'
  cases s3'
  have cp := c'.at_ _ s2'
  refine w xs H' Q F' p' vs' ds as _ ds' R'.fh cp.2 s4' rx g5 fun u us' ru ru' => ?_
  obtain ⟨B, hB, memB, sB⟩ := put us' ds' ru'
  obtain ⟨ht, hi⟩ := runAt_some g3
  have op : ow' p' = some i := cp.1
  have ne : ∀ a, ow' a ≠ some i → upd H' p' (.lst us') a = H' a := fun a n => upd_ne fun z => n (by rw [z]; exact op)
  have nn : ∀ a, H' a ≠ none → upd H' p' (.lst us') a ≠ none := fun a h => by
    by_cases z : a = p'
    · rw [z, upd_same]; exact fun z => nomatch z
    · rw [upd_ne z]; exact h
  have cB : Cells (upd H' p' (.lst us')) (fun a => ow' a = some i) B := ⟨by rw [hB]; exact c'.nd, fun x m => by
    rcases memB x m with rfl | ⟨m', n'⟩
    · exact ⟨op, upd_same⟩
    · exact ⟨(c'.at_ x m').1, (upd_ne n').trans (c'.at_ x m').2⟩⟩
  have R3 := R'.chg (s' := .ext b t (wrapS (putR t d1 ds'))) hi hv ne (fun a ha => nn a (R'.sep a i ha).2.2) (E0.of ht cB sB) rfl
  exact k u F' _ ow' R3 (g.tr (Grow.chg (fun a n => ne a fun z => by rw [n] at z; cases z) nn)) (fun z => nomatch z) ru⟩
/-! ### x[j] of such a list, j past the run -/
def evRd (i j : Nat) : EvB := fun env => (runAt 8 env i).bind fun o => match o.2 with
  | .list (_ :: es) => (es[j]?).map fun d => (d, env)
  | _ => none
theorem sp_rd {k : Nat} {ip : Pos} {n : Int} (h : PE X (.Name x p) (tVar i)) (hn : n = ((j + 1 : Nat) : Int)) (hs : PlainIx (.Constant (.int n) k ip) := by exact fun _ _ => rfl) : SP E0 X (.Subscript (.Name x p) (.Constant (.int n) k ip) pos) true (evRd i j) := ⟨fun fr => (pe_ix ix_list h pe_int hs).weak fun σ H Q ⟨F, ow, env, d, env', R, ee, k⟩ => by
  obtain ⟨⟨b, d0⟩, h1, ee⟩ := bind2 ee
  obtain ⟨v, A, hv, c, s⟩ := R.tree h1
  cases s with
  | @lst q a p u vs ws ds e es r s w =>
    obtain ⟨d', h2, ee⟩ := Option.map_eq_some_iff.mp ee
    cases ee
    obtain ⟨y, hy, ry⟩ := w.get h2
    refine ⟨_, hv, q, _, n, y, rfl, rfl, .inl (.inl (c.at_ (q, .lst (.ref a :: ws)) (by simp)).2), ?_, k y F H ow R Grow.refl (fun _ => Ex.refl _) ry⟩
    subst hn
    unfold atI ixN
    have hl : j < ws.length := (List.getElem?_eq_some_iff.mp hy).1
    have hc : (V.ref a :: ws).length = ws.length + 1 := rfl
    rw [if_pos (by omega), if_pos (by omega)]
    simpa using hy⟩
/-! ### looked at by a def -/
theorem look_coreG {E : ExtK} {f : FSem} {G : Hp} {fr : Fra} {F0 H0 F H : Hp} {ow0 ow : Ow} {env : SEnv} {σ : L2.St} {n : Nat} {vs : List V} {ds : List PyData} {outs : List Slot} {d : PyData} {q : Bool} {Q : VK} {XE : XK} (R : Rel E fr F H ow env σ) (g : Grow F0 H0 ow0 F H ow) (hq : q = true → Ex H0 H) (hG : Ex G H) (la : RpA G vs ds) (hn : vs.length = n)
    (hf : f (ds.map .pur) = some (.pur d, outs)) (sc : scalar d = true) (k : ∀ v F' H' ow', Rel E fr F' H' ow' env σ → Grow F0 H0 ow0 F' H' ow' → (q = true → Ex H0 H') → Res E fr H0 ow0 F' H' ow' v (.pur d) → Q v H') : spI E f n vs H Q XE := by
  refine ⟨hn, G, H, fun _ => none, ds.map .pur, .pur d, outs, hG, Ex.refl _, (fun a i z => nomatch z), by rw [List.length_map, ← la.length, hn], fun i s e => ?_, hf, fun v F' H' ow' T => ?_⟩
  · rw [List.getElem?_map] at e
    obtain ⟨d1, h1, rfl⟩ := Option.map_eq_some_iff.mp e
    obtain ⟨v, h2, h3⟩ := la.get h1
    exact ⟨rfl, v, h2, h3⟩
  · obtain ⟨S, _, hs⟩ := T.res
    have keep : ∀ a o, H a = some o → H' a = some o := T.bh
    have same : ∀ a i, ow a = some i → H' a = H a := fun a i ha => by
      obtain ⟨o, ho⟩ := some_of_ne (R.sep a i ha).2.2
      rw [ho]; exact keep a o ho
    have R' : Rel E fr F H' ow env σ := ⟨fun a o z => keep a o (R.fh a o z), R.f0, fun a o z => keep a o (R.bh a o z), R.fb, fun a z => T.dom a (R.dom a z), fun a i z => ⟨(R.sep a i z).1, (R.sep a i z).2.1, T.dom a (R.sep a i z).2.2⟩, R.len, fun i s z => (R.sl i s z).imp id fun ⟨v, h1, h2⟩ =>
      ⟨v, h1, h2.mono E (Ex.refl _) (fun _ z => z) fun a ha => same a i ha⟩, R.pr⟩
    exact k v F H' ow R' (g.tr ⟨Ex.refl _, fun a o z _ => keep a o z, fun a z => T.dom a z, fun a _ n => ⟨rfl, n⟩⟩) (fun z => (hq z).tr keep) (Res.pur (scalar_rp sc hs))
def evLook (f : FSem) (t i : Nat) (a : EvA) : EvE := fun env => (runAt t env i).bind fun _ => (a env).bind fun p => (runAt t p.2 i).bind fun o => match f ((o.2 :: p.1).map .pur) with
  | some (.pur d, _) => if scalar d = true then some (.pur d, p.2) else none
  | _ => none
theorem evLook_some {f : FSem} {a : EvA} {env env' : SEnv} {r : Slot} (h : evLook f t i a env = some (r, env')) : ∃ o0 ds o d outs, runAt t env i = some o0 ∧ a env = some (ds, env') ∧ runAt t env' i = some o ∧ f ((o.2 :: ds).map .pur) = some (.pur d, outs) ∧ scalar d = true ∧ r = .pur d := by
  obtain ⟨o0, h0, h⟩ := bind2 h
  obtain ⟨⟨ds, e1⟩, h1, h⟩ := bind2 h
  obtain ⟨o, h2, h⟩ := bind2 h
  dsimp only at h
  split at h
  · rename_i d outs hf
    split at h
    · cases h; exact ⟨o0, ds, o, d, outs, h0, h1, h2, hf, by assumption, rfl⟩
    · cases h
  · cases h
/-- y, looked at, ahead of data -/
theorem tree_args {fr : Fra} {F H : Hp} {ow : Ow} {env : SEnv} {σ : L2.St} {b : Bool} {d : PyData} {v : V} {vs : List V} {ds : List PyData} (R : Rel E0 fr F H ow env σ) (h : runAt t env i = some (b, d)) (hv : σ[i]? = some (some v)) (r : RpA F vs ds) : ∃ G, Ex F G ∧ Ex G H ∧ RpA G (v :: vs) (d :: ds) := by
  obtain ⟨v', A, hv', c, s⟩ := R.tree h
  rw [hv] at hv'
  cases hv'
  have a1 : ∀ x ∈ A, F x.1 = none := fun x m => (R.sep _ i (c.at_ x m).1).1
  exact ⟨frzA F A, frzA_ex a1, frzA_le R.fh c.nd fun x m => (c.at_ x m).2, .cons (s.rp c.nd a1) (RpA.mono (frzA_ex a1) _ _ r)⟩
theorem se_look {k j : Nat} {y : Str} {yp : Pos} {params : Arguments} {body : List Stmt} {scope : Scope} {ps : List Str} {f : FSem} {q : Bool} {ev : EvA} (F : FnEG E0 X.prog X.w X.K X.mg X.base k x params body scope ps f) (nr : NoRep X.A) (hr : Room j X.A) (hk : k ≤ j) (hg : Gl X x) (hy : PE X (.Name y yp) (tVar i)) (ha : SA E0 X es q ev) (hl : ∀ env ds env', ev env = some (ds, env') → ds.length + 1 = ps.length)
    (hdb : (x == ("__debug__" : Str)) = false := by decide) (he : starEach (.Name y yp :: es) X.env = (false, eval (.Name y yp) X.env) :: starEach es X.env := by rfl) (hpl : (backTo pos (starEach es X.env)).any (·.1) = false := by rfl) :
    SE E0 X (.Call (.Name x p) (.Name y yp :: es) [] pos) q (evLook f t i ev) := ⟨fun fr => by
  obtain ⟨fA, fd, F1, hm, FD⟩ := F.ex
  refine (peG (F1.mono hk) nr hr hg hm FD.kp (FD.bindsN F.bd) pass0 (pa_cons hy (ha.pa fr) he) hdb he hpl).weak fun σ H Q ⟨F, ow, env, r, env', R, ee, k⟩ => ?_
  obtain ⟨⟨b0, d0⟩, ds, ⟨b, d1⟩, d, outs, h0, h1, h2, h3, h4, rfl⟩ := evLook_some ee
  obtain ⟨v, _, hv, _, _⟩ := R.tree h0
  refine ⟨v, hv, F, ow, env, ds, env', R, h1, fun vs F' H' ow' R' g hq la => ?_⟩
  obtain ⟨G, f1, f2, rg⟩ := tree_args R' h2 hv la
  exact look_coreG (q := q) R' g hq f2 rg (by rw [List.length_cons, la.length]; exact hl _ _ _ h1) h3 h4 k⟩
end
end IX

/-! text IX47 -/
set_option maxHeartbeats 1000000
/-! Own runs: repr; f(..)[0].append(..). -/
namespace IX
open PySem PySem.Spec PyProof.Rows L2
variable [KC]
section
variable {X : Cx} [hx : KX X] {o e : Expr} {es : List Expr} {p pos : Pos} {x : Str} {i j t : Nat}
def evRpr (t i : Nat) : EvB := fun env => (runAt t env i).bind fun o => if showOk o.2 = true then some (.str o.2.shown, env) else none
theorem sp_reprR {p2 : Pos} (nr : NoRep X.A) (hu : X.A.units + 64 < cLine) (hg : Gl X "repr") (hm : X.mg "repr" = none) (hb : bootBuiltins "repr" = some (.builtin "repr")) (h : PE X (.Name x p) (tVar i)) (he : starEach [.Name x p] X.env = (false, eval (.Name x p) X.env) :: starEach [] X.env := by rfl) :
    SP E0 X (.Call (.Name "repr" p2) [.Name x p] [] pos) true (evRpr t i) := ⟨fun fr =>
  (pe_callB (call_reprD nr hu) hg hm hb (pa_cons h pa_nil)).weak fun σ H Q ⟨F, ow, env, d, env', R, ee, k⟩ => by
  obtain ⟨⟨b, d0⟩, h1, ee⟩ := bind2 ee
  split at ee
  · rename_i z
    cases ee
    obtain ⟨v, A, hv, c, s⟩ := R.tree h1
    obtain ⟨G, f1, f2, rg⟩ := tree_args R h1 hv (vs := []) .nil
    cases rg with
    | cons r _ => exact ⟨_, hv, v, d0, rfl, (RpL.dp f2 (.inl r)), z, k _ F H ow R Grow.refl (fun _ => Ex.refl _) (.str _)⟩
  · cases ee⟩
theorem Grow.tmpU {F0 H0 F H : Hp} {ow0 ow : Ow} {p : Addr} {u : HO} (g : Grow F0 H0 ow0 F H ow) (nw : H0 p ≠ none → ow0 p ≠ none) : Grow F0 H0 ow0 F (upd H p u) ow where
  f := g.f
  h := fun a o h n => (upd_ne (fun z => by subst z; exact nw (ne_of_some h) n)).trans (g.h a o h n)
  dom := fun a h => by
    by_cases z : a = p
    · rw [z, upd_same]; exact fun z => nomatch z
    · rw [upd_ne z]; exact g.dom a h
  fz := g.fz
def evTmpMut (ev : EvE) (f : List PyData → List PyData → Option (PyData × List PyData)) (a : EvA) : EvB := fun env => (ev env).bind fun p => match p.1 with
  | .ext false 7 g => (unwX 7 g).bind fun d => (getR 7 d).bind fun ds => (a p.2).bind fun q => (f ds q.1).map fun r => (r.1, q.2)
  | _ => none
theorem evTmpMut_some {ev : EvE} {f : List PyData → List PyData → Option (PyData × List PyData)} {a : EvA} {env env' : SEnv} {d : PyData} (h : evTmpMut ev f a env = some (d, env')) : ∃ d0 e1 ds as ds', ev env = some (.ext false 7 (wrapS d0), e1) ∧ getR 7 d0 = some ds ∧ a e1 = some (as, env') ∧ f ds as = some (d, ds') := by
  obtain ⟨⟨r, e1⟩, h1, h⟩ := bind2 h
  dsimp only at h
  split at h
  · obtain ⟨d0, h2, h⟩ := bind2 h
    obtain ⟨ds, h3, h⟩ := bind2 h
    obtain ⟨⟨as, e2⟩, h4, h⟩ := bind2 h
    obtain ⟨⟨d', ds'⟩, h5, h⟩ := Option.map_eq_some_iff.mp h
    cases h
    obtain ⟨_, rfl⟩ := unwX_some h2
    exact ⟨d0, e1, ds, as, ds', h1, h3, h4, h5⟩
  · cases h
theorem sp_tmpMut {id : String} {name : Str} {k : Nat} {ip apos spos : Pos} {q : Bool} {ev : EvE} {a : EvA} {f : List PyData → List PyData → Option (PyData × List PyData)} (h : SE E0 X o q ev) (pa : PlainAttrs "list") (slot : PySem.Slot "list" name id) (hty : typeOf (.builtin id) = pure (.type "method_descriptor")) (hm : MutV X id f) (ha : SA E0 X (e :: es) true a)
    (hsx : PlainIx (.Constant (.int 0) k ip) := by exact fun _ _ => rfl)
    (hbase : attributeBase (.Subscript o (.Constant (.int 0) k ip) spos) name X.env (eval (.Subscript o (.Constant (.int 0) k ip) spos) X.env) = eval (.Subscript o (.Constant (.int 0) k ip) spos) X.env := by rfl)
    (hfew : ((backTo pos (starEach (e :: es) X.env)).all (fun x => !x.1) && (backToKw pos (keywordEach [] X.env)).all (fun x => x.1.isSome)
      && decide ((e :: es).length + ([] : List Keyword).length + (if ([] : List Keyword).isEmpty then 0 else 1) < 30)) = true := by rfl)
    (hline : (apos.endLine == pos.line) = true := by rfl) (hs : starEach (e :: es) X.env = (false, eval e X.env) :: starEach es X.env := by rfl) (hplain : (backTo pos (starEach es X.env)).any (·.1) = false := by rfl) :
    SP E0 X (.Call (.Attribute (.Subscript o (.Constant (.int 0) k ip) spos) name apos) (e :: es) [] pos) false (evTmpMut ev f a) := ⟨fun fr => by
  obtain ⟨r0, hm0, w⟩ := hm
  refine (pe_bm pa slot hty hm0 (pe_ix ix_tup (h.pe fr) pe_int hsx) (ha.pa fr) hbase hfew hline hs hplain).weak fun σ H Q ⟨F, ow, env, d, env', R, ee, kk⟩ => ?_
  obtain ⟨d0, e1, ds, as, ds', g1, g2, g3, g4⟩ := evTmpMut_some ee
  refine ⟨F, ow, env, _, e1, R, g1, fun v F1 H1 ow1 R1 gr1 q1 r1 => ?_⟩
  obtain ⟨_, _, S, hS, hs⟩ := r1
  obtain ⟨A, c, s⟩ := E0.tree hs (by decide)
  cases s with
  | @run a p u vs ds0 e0 ra re =>
    cases g2
    have ca := c.at_ (a, .tup [.ref p, u]) (by simp)
    have cp := c.at_ (p, .lst vs) (by simp)
    obtain ⟨n1, n2, n3, n4, n5⟩ := hS p cp.1
    refine ⟨a, _, 0, .ref p, rfl, rfl, .inl (.inl ca.2), atI0, .inl ⟨rfl, vs, SqL.of cp.2⟩, F1, ow1, e1, as, env', R1, g3, fun xs F2 H2 ow2 R2 gr2 q2 rx => ?_⟩
    obtain ⟨z1, z2⟩ := gr2.fz p n4 n1
    have hp2 := gr2.h p _ cp.2 n1
    refine w xs H2 Q F2 p vs _ as d ds' R2.fh hp2 (RpA.mono gr2.f _ _ ra) rx g4 fun y us' ry ru => ?_
    exact kk y F2 _ ow2 (R2.tmpUpd z2 (z1.trans n2) n3) ((gr1.tr gr2).tmpU n5) (fun z => nomatch z) ry⟩
end
end IX

/-! text IX48 -/
set_option maxHeartbeats 1000000
/-! str(i), str(z), int(z), x.startswith(y). -/
namespace IX
open PySem PySem.Spec PyProof.Rows L2
variable [KC]
section
variable {E : ExtK} {X : Cx} [KX X] {e o : Expr} {es : List Expr} {p pos : Pos}
def cStr : List PyData → Option Slot
  | [.int i] => if i.natAbs.log2 < 1920 then some (.pur (.str (toString i))) else none
  | [.str z] => some (.pur (.str z))
  | _ => none
theorem cv_str : CallV X (.type "str") cStr := by
  refine .of (r0 := fun vs H Q => (∃ i, vs = [.int i] ∧ i.natAbs.log2 < 1920 ∧ Q (.str (toString i)) H) ∨ ∃ a, vs = [.str a] ∧ Q (.str a) H) (fun pins s σ H vs us Q I r h => h.elim (call_str_int pins s σ H vs us Q I r) (SkE.call_str_str pins s σ H vs us Q I r)) fun xs H Q F ds r ex hd hr k => ?_
  unfold cStr at hr
  split at hr
  · split at hr
    · rename_i z
      cases hr
      obtain ⟨v, rfl, h⟩ := hd.one
      have e := h.int
      subst e
      exact .inl ⟨_, rfl, z, k.data ex (.str _)⟩
    · cases hr
  · cases hr
    obtain ⟨v, rfl, h⟩ := hd.one
    have e := h.str
    subst e
    exact .inr ⟨_, rfl, k.data ex (.str _)⟩
  · cases hr
def cIntS : List PyData → Option Slot
  | [.str z] => if z.length ≤ 640 then (PySem.intText? z).map fun n => .pur (.int n) else none
  | _ => none
theorem cv_intS : CallV X (.type "int") cIntS := .of call_int_str fun xs H Q F ds r ex hd hr k => by
  unfold cIntS at hr
  split at hr
  · split at hr
    · rename_i z
      obtain ⟨n, h1, rfl⟩ := Option.map_eq_some_iff.mp hr
      obtain ⟨v, rfl, h⟩ := hd.one
      have e := h.str
      subst e
      exact ⟨_, n, rfl, h1, z, k.data ex (.int _)⟩
    · cases hr
  · cases hr
def fStarts : PyData → PyData → Option Slot
  | .str a, .str b => some (.pur (.bool (Txt.startswith a b)))
  | _, _ => none
theorem se_starts {apos : Pos} {qa qb sa sb : Bool} {eva evb : EvB} (ha : SB E X o qa sa eva) (hb : SB E X e qb sb evb) (hc : (qb || sa) = true := by rfl)
    (hs : starEach [e] X.env = [(false, eval e X.env)] := by rfl) (hbase : attributeBase o "startswith" X.env (eval o X.env) = eval o X.env := by rfl) (hline : (apos.endLine == pos.line) = true := by rfl) :
    SE E X (.Call (.Attribute o "startswith" apos) [e] [] pos) (qa && qb) (evBin fStarts eva evb) :=
  str_m1 PySem.F.slot_str_startswith PySem.F.type_str_startswith mt_startswith (fun d e r h => by unfold fStarts at h; split at h; exact ⟨_, rfl⟩; cases h) (fun x y d e s F H Q ex hd he h k => by
    unfold fStarts at h
    split at h
    · cases h
      exact ⟨_, _, hd.str, by rw [he.str], k.data ex (.bl _)⟩
    · cases h) ha hb hc hs hbase hline
/-! ### sorted, of whole numbers -/
def sortI (ns : List Int) : List Int := ns.mergeSort fun a b => decide (a ≤ b)
theorem sortI_perm (ns : List Int) : (sortI ns).Perm ns := List.mergeSort_perm _ _
theorem sortI_up (ns : List Int) : (sortI ns).Pairwise (· ≤ ·) := (List.pairwise_mergeSort (le := fun a b : Int => decide (a ≤ b)) (fun a b c h k => by simp at *; omega) (fun a b => by simp; omega) ns).imp fun h => by simpa using h
theorem sortI_uniq {a b : List Int} (h : a.Perm b) (k : a.Pairwise (· ≤ ·)) : a = sortI b := List.Perm.eq_of_pairwise (fun x y _ _ h k => by omega) k (sortI_up b) (h.trans (sortI_perm b).symm)
def cSortI : List PyData → Option Slot
  | [.list ds] => (intsD ds).bind fun ns => if ns.length < 64 then some (.own false ((sortI ns).map .int)) else none
  | _ => none
theorem rpA_ints {F : Hp} : ∀ ns : List Int, RpA F (ns.map V.int) (ns.map PyData.int)
  | [] => .nil
  | n :: ns => .cons (.int n) (rpA_ints ns)
theorem cv_sortI : CallV X (.builtin "sorted") cSortI := .of cr_sorted fun xs H Q F ds r ex hd hr k => by
  unfold cSortI at hr
  split at hr
  · obtain ⟨ns, h1, hr⟩ := bind2 hr
    split at hr
    · rename_i z
      cases hr
      obtain ⟨v, rfl, h⟩ := hd.one
      obtain ⟨p, vs, rfl, hp, rp⟩ := h.lst ex
      rw [intsD_map h1] at rp
      have e := RpA.of_ints rp
      subst e
      refine ⟨p, ns, rfl, SqL.of hp, z, fun ns' q hperm hup hq => ?_⟩
      have e := sortI_uniq hperm hup
      subst e
      exact k.newL ex (rpA_ints _) hq
    · cases hr
  · cases hr
end
end IX
namespace IX
open PySem PySem.Spec PyProof.Rows L2
@[simp] theorem e_strI {i : Int} : cStr [.int i] = (if i.natAbs.log2 < 1920 then some (.pur (.str (toString i))) else none) := rfl
@[simp] theorem e_strS {z : Str} : cStr [.str z] = some (.pur (.str z)) := rfl
@[simp] theorem e_intS {z : Str} : cIntS [.str z] = (if z.length ≤ 640 then (PySem.intText? z).map fun n => .pur (.int n) else none) := rfl
@[simp] theorem e_sortI {ds : List PyData} : cSortI [.list ds] = ((intsD ds).bind fun ns => if ns.length < 64 then some (.own false ((sortI ns).map .int)) else none) := rfl
@[simp] theorem e_starts {a b : Str} : fStarts (.str a) (.str b) = some (.pur (.bool (Txt.startswith a b))) := rfl
end IX

/-! text IX49 -/
set_option maxHeartbeats 1000000
/-! [e for x in xs if .. for y in ys if ..]. -/
namespace IX
open PySem PySem.Spec PyProof.Rows L2
variable [KC]
def compL2 (vs vs1 : List Nat) (g : PyData → SEnv → Option SEnv) (t : EvT) (it1 : EvA) (g1 : PyData → SEnv → Option SEnv) (t1 : EvT) (ev : EvB) : List PyData → SEnv → List PyData → Option (List PyData × SEnv)
  | [], env, acc => some (acc, env)
  | d :: ds, env, acc => (g d env).bind fun e1 => (t e1).bind fun p => if p.1 = true then (it1 p.2).bind fun q => (compL vs1 g1 t1 ev q.1 (wipeE q.2 vs1) acc).bind fun r => compL2 vs vs1 g t it1 g1 t1 ev ds (wipeE r.2 vs) r.1
      else compL2 vs vs1 g t it1 g1 t1 ev ds (wipeE p.2 vs) acc
def evComp2 (vs vs1 : List Nat) (it : EvA) (g : PyData → SEnv → Option SEnv) (t : EvT) (it1 : EvA) (g1 : PyData → SEnv → Option SEnv) (t1 : EvT) (ev : EvB) : EvE := fun env => (it env).bind fun p => (compL2 vs vs1 g t it1 g1 t1 ev p.1 (wipeE p.2 vs) []).map fun q => (.own false q.1, q.2)
section
variable {E : ExtK} {X : Cx} [KX X] {elt tg iter tg1 iter1 : Expr} {ifs ifs1 : List Expr} {scope : Scope} {own : List (Str × Nat)} {pos spos : Pos}
theorem in_core {fr : Fra} {vs ts : List Nat} {q : Bool} {it : EvA} {g : PyData → SEnv → Option SEnv} {t : EvT} {ev : EvB} {qt qe : Bool} {σ : L2.St} {F0 H0 F H : Hp} {ow0 ow : Ow} {env e1 e2 : SEnv} {ds res : List PyData} {D : Addr} {Nx : Hp → Prop} {acc0 : List V} {dacc0 : List PyData} (hts : ∀ j ∈ ts, j ∈ vs)
    (hD : H0 D = none) (bD : fr.B D = none) (R : Rel E fr F H ow env σ) (G : Grow F0 H0 ow0 F H ow) (a1 : H D = some (.lst acc0)) (a2 : ow D = none) (a3 : F D = none) (a4 : RpA F acc0 dacc0) (hi : it env = some (ds, e1)) (h2 : compL vs g t ev ds (wipeE e1 vs) dacc0 = some (res, e2))
    (K : ∀ F' H' ow' acc, Rel E fr F' H' ow' e2 (wipe σ vs) → Grow F0 H0 ow0 F' H' ow' → H' D = some (.lst acc) → ow' D = none → F' D = none → RpA F' acc res → Nx H') :
    TIv E fr q it σ H fun J1 H4 => ∃ W1 : Nat → Nat → Hp → Prop, (∃ m, W1 0 m H4) ∧ ∀ j k H, W1 j k H →
      (J1.stop j H ∧ Nx H) ∨ (J1.go j H ∧ ∃ Nx1 : Hp → Prop, (∀ H', Nx1 H' → ∃ k', k' < k ∧ W1 (j + 1) k' H') ∧ ∀ x H', J1.yld j H x H' → TGv E fr ts g x (wipe σ vs) H' fun σ3 H5 => wipe σ3 vs = wipe σ vs ∧ TTq E fr qt t σ3 H5 fun b H6 =>
        if b = true then TP E fr qe ev σ3 H6 fun y H7 => ∃ acc, H7 D = some (.lst acc) ∧ acc.length < sizeLine ∧ Nx1 (upd H7 D (.lst (acc ++ [y]))) else Nx1 H6) := by
  refine ⟨F, ow, env, ds, e1, R, hi, fun J F1 H1 ow1 R1 g1 _ wk => ?_⟩
  have d1 : H1 D = some (.lst acc0) := g1.h _ _ a1 a2
  have z1 := g1.fz D (ne_of_some a1) a2
  have Rw : Rel E fr F1 H1 ow1 (wipeE e1 vs) (wipe σ vs) := R1.wipes (wipe_length σ vs) fun j n => wipe_get n
  refine ⟨fun i m H2 => m = ds.length - i ∧ i ≤ ds.length ∧ ∃ F2 ow2 env2 acc dacc, Rel E fr F2 H2 ow2 env2 (wipe σ vs) ∧ Ex F1 F2 ∧ Grow F0 H0 ow0 F2 H2 ow2 ∧ H2 D = some (.lst acc) ∧ ow2 D = none ∧ F2 D = none ∧ RpA F2 acc dacc ∧ compL vs g t ev (ds.drop i) env2 dacc = some (res, e2),
    ⟨ds.length, by simp, Nat.zero_le _, F1, ow1, _, acc0, dacc0, Rw, Ex.refl _, G.tr g1, d1, z1.2, z1.1.trans a3, RpA.mono g1.f _ _ a4, by simpa using h2⟩, ?_⟩
  rintro i m H2 ⟨rfl, hle, F2, ow2, env2, acc, dacc, R2, f12, G2, hD2, n2, f2, r2, hc⟩
  obtain ⟨w1, w2⟩ := wk i F2 H2 f12 R2.fh
  by_cases hlt : i < ds.length
  · obtain ⟨d, hd⟩ : ∃ d, ds[i]? = some d := ⟨ds[i], by simp [hlt]⟩
    have hdrop : ds.drop i = d :: ds.drop (i + 1) := by
      rw [List.drop_eq_getElem_cons hlt]
      congr 1
      simpa [hlt] using hd
    rw [hdrop, compL] at hc
    obtain ⟨go, yl⟩ := w1 d hd
    refine .inr ⟨go, fun H3 => ∃ F3 ow3 env3 acc3 dacc3, Rel E fr F3 H3 ow3 env3 (wipe σ vs) ∧ Ex F1 F3 ∧ Grow F0 H0 ow0 F3 H3 ow3 ∧ H3 D = some (.lst acc3) ∧ ow3 D = none ∧ F3 D = none ∧ RpA F3 acc3 dacc3 ∧ compL vs g t ev (ds.drop (i + 1)) env3 dacc3 = some (res, e2),
      fun H3 ⟨F3, ow3, env3, acc3, dacc3, h3⟩ => ⟨ds.length - (i + 1), by omega, rfl, hlt, F3, ow3, env3, acc3, dacc3, h3⟩, fun x H3 hy => ?_⟩
    obtain ⟨F3, al, rx⟩ := yl x H3 hy
    have R3 := R2.alloc al
    have g3 := al.grow R2
    obtain ⟨e3, hg', hc⟩ := bind2 hc
    obtain ⟨⟨b, e4⟩, ht', hc⟩ := bind2 hc
    refine ⟨F3, ow2, env2, d, e3, R3, rx, hg', fun F4 H4 ow4 σ4 R4 g4 ⟨n4, l4⟩ => ⟨wipe_back (l4.trans (wipe_length σ vs)) fun j nj => n4 j fun z => nj (hts j z), ?_⟩⟩
    have G4 := (G2.tr g3).tr g4
    have D4 : H4 D = some (.lst acc) := g4.h _ _ (al.h _ _ hD2) n2
    have N4 : ow4 D = none := (g4.fz D (ne_of_some (al.h _ _ hD2)) n2).2
    have E4 : F4 D = none := (g4.fz D (ne_of_some (al.h _ _ hD2)) n2).1.trans ((al.fz D (ne_of_some hD2)).trans f2)
    refine ⟨F4, ow4, e3, b, e4, R4, ht', fun F5 H5 ow5 R5 g5 _ => ?_⟩
    have D5 : H5 D = some (.lst acc) := g5.h _ _ D4 N4
    have E5 : F5 D = none := (g5.fz D (ne_of_some D4) N4).1.trans E4
    have N5 : ow5 D = none := (g5.fz D (ne_of_some D4) N4).2
    have wl : (wipe σ vs).length = σ4.length := l4.symm
    cases b with
    | true =>
      have hc : (ev e4).bind (fun q => if dacc.length < sizeLine then compL vs g t ev (ds.drop (i + 1)) (wipeE q.2 vs) (dacc ++ [q.1]) else none) = some (res, e2) := hc
      obtain ⟨⟨y, e5⟩, he', hc⟩ := bind2 hc
      have hc : (if dacc.length < sizeLine then compL vs g t ev (ds.drop (i + 1)) (wipeE e5 vs) (dacc ++ [y]) else none) = some (res, e2) := hc
      split at hc
      · rename_i hz
        refine iteT ⟨F5, ow5, e4, y, e5, R5, he', fun u F6 H6 ow6 R6 g6 _ ru => ?_⟩
        have D6 : H6 D = some (.lst acc) := g6.h _ _ D5 N5
        have E6 : F6 D = none := (g6.fz D (ne_of_some D5) N5).1.trans E5
        have N6 : ow6 D = none := (g6.fz D (ne_of_some D5) N5).2
        have g26 := ((g3.tr g4).tr g5).tr g6
        refine ⟨acc, D6, by rw [r2.length]; exact hz, F6, ow6, wipeE e5 vs, _, dacc ++ [y], ?_, f12.tr g26.f, (((G4.tr g5).tr g6)).tmpUpd hD, upd_same, N6, E6, (RpA.mono g26.f _ _ r2).append (.cons ru .nil), hc⟩
        exact (R6.tmpUpd N6 E6 bD).wipes wl fun j nj => (n4 j fun z => nj (hts j z)).symm
      · cases hc
    | false =>
      have hc : compL vs g t ev (ds.drop (i + 1)) (wipeE e4 vs) dacc = some (res, e2) := hc
      refine iteF ⟨F5, ow5, wipeE e4 vs, acc, dacc, ?_, f12.tr ((g3.tr g4).tr g5).f, G4.tr g5, D5, N5, E5, RpA.mono ((g3.tr g4).tr g5).f _ _ r2, hc⟩
      exact R5.wipes wl fun j nj => (n4 j fun z => nj (hts j z)).symm
  · have e0 : ds.drop i = [] := List.drop_eq_nil_of_le (by omega)
    rw [e0, compL] at hc
    cases hc
    exact .inl ⟨w2 (by omega), K F2 H2 ow2 acc R2 G2 hD2 n2 f2 r2⟩
theorem comp2_core {fr : Fra} {vs vs1 ts ts1 : List Nat} {q q1 : Bool} {it it1 : EvA} {g g1 : PyData → SEnv → Option SEnv} {t t1 : EvT} {ev : EvB} {qt qt1 qe : Bool} {σ : L2.St} {H : Hp} {Q : VK} (hts : ∀ j ∈ ts, j ∈ vs) (hts1 : ∀ j ∈ ts1, j ∈ vs1) (hvs : ∀ j ∈ vs1, j ∈ vs) (h : TQ E fr false (evComp2 vs vs1 it g t it1 g1 t1 ev) σ H Q) :
    tLc2 (TIv E fr q it) (TGv E fr ts g) (TTq E fr qt t) (TIv E fr q1 it1) (TGv E fr ts1 g1) (TTq E fr qt1 t1) (TP E fr qe ev) vs vs1 σ H Q := by
  obtain ⟨F, ow, env, r, env', R, ee, k⟩ := h
  obtain ⟨⟨ds, e1⟩, h1, h⟩ := bind2 ee
  obtain ⟨⟨res, e2⟩, h2, h⟩ := Option.map_eq_some_iff.mp h
  cases h
  refine ⟨F, ow, env, ds, e1, R, h1, fun J F1 H1 ow1 R1 gr1 _ wk D hD => ?_⟩
  have n1 : ow1 D = none := R1.free hD
  have f1 : F1 D = none := R1.fh.non hD
  have b1 : fr.B D = none := R1.bh.non hD
  have Rw : Rel E fr F1 (upd H1 D (.lst [])) ow1 (wipeE e1 vs) (wipe σ vs) := (R1.tmpUpd n1 f1 b1).wipes (wipe_length σ vs) fun j n => wipe_get n
  refine ⟨fun i m H2 => m = ds.length - i ∧ i ≤ ds.length ∧ ∃ F2 ow2 env2 acc dacc, Rel E fr F2 H2 ow2 env2 (wipe σ vs) ∧ Grow F1 H1 ow1 F2 H2 ow2 ∧ H2 D = some (.lst acc) ∧ ow2 D = none ∧ F2 D = none ∧ RpA F2 acc dacc ∧ compL2 vs vs1 g t it1 g1 t1 ev (ds.drop i) env2 dacc = some (res, e2) ∧ (∀ j s, env2[j]? = some s → j ∈ vs → s = .und),
    ⟨ds.length, by simp, Nat.zero_le _, F1, ow1, _, [], [], Rw, Grow.tmpUpd Grow.refl hD, upd_same, n1, f1, .nil, by simpa using h2, fun j s e hj => ?_⟩, ?_⟩
  · rcases wipeE_get e with z | ⟨n, _⟩
    · exact z
    · exact absurd hj n
  rintro i m H2 ⟨rfl, hle, F2, ow2, env2, acc, dacc, R2, g2, hD2, n2, f2, r2, hc, hu⟩
  obtain ⟨w1, w2⟩ := wk i F2 H2 g2.f R2.fh
  by_cases hlt : i < ds.length
  · obtain ⟨d, hd⟩ : ∃ d, ds[i]? = some d := ⟨ds[i], by simp [hlt]⟩
    have hdrop : ds.drop i = d :: ds.drop (i + 1) := by
      rw [List.drop_eq_getElem_cons hlt]
      congr 1
      simpa [hlt] using hd
    rw [hdrop, compL2] at hc
    obtain ⟨go, yl⟩ := w1 d hd
    refine .inr ⟨go, fun H3 => ∃ F3 ow3 env3 acc3 dacc3, Rel E fr F3 H3 ow3 env3 (wipe σ vs) ∧ Grow F1 H1 ow1 F3 H3 ow3 ∧ H3 D = some (.lst acc3) ∧ ow3 D = none ∧ F3 D = none ∧ RpA F3 acc3 dacc3 ∧ compL2 vs vs1 g t it1 g1 t1 ev (ds.drop (i + 1)) env3 dacc3 = some (res, e2) ∧ (∀ j s, env3[j]? = some s → j ∈ vs → s = .und),
      fun H3 ⟨F3, ow3, env3, acc3, dacc3, h3⟩ => ⟨ds.length - (i + 1), by omega, rfl, hlt, F3, ow3, env3, acc3, dacc3, h3⟩, fun x H3 hy => ?_⟩
    obtain ⟨F3, al, rx⟩ := yl x H3 hy
    have R3 := R2.alloc al
    have g3 := al.grow R2
    obtain ⟨e3, hg', hc⟩ := bind2 hc
    obtain ⟨⟨b, e4⟩, ht', hc⟩ := bind2 hc
    refine ⟨F3, ow2, env2, d, e3, R3, rx, hg', fun F4 H4 ow4 σ4 R4 g4 ⟨n4, l4⟩ => ⟨wipe_back (l4.trans (wipe_length σ vs)) fun j nj => n4 j fun z => nj (hts j z), ?_⟩⟩
    have G4 := (g2.tr g3).tr g4
    have D4 : H4 D = some (.lst acc) := g4.h _ _ (al.h _ _ hD2) n2
    have N4 : ow4 D = none := (g4.fz D (ne_of_some (al.h _ _ hD2)) n2).2
    have E4 : F4 D = none := (g4.fz D (ne_of_some (al.h _ _ hD2)) n2).1.trans ((al.fz D (ne_of_some hD2)).trans f2)
    refine ⟨F4, ow4, e3, b, e4, R4, ht', fun F5 H5 ow5 R5 g5 _ => ?_⟩
    have D5 : H5 D = some (.lst acc) := g5.h _ _ D4 N4
    have E5 : F5 D = none := (g5.fz D (ne_of_some D4) N4).1.trans E4
    have N5 : ow5 D = none := (g5.fz D (ne_of_some D4) N4).2
    have wl : (wipe σ vs).length = σ4.length := l4.symm
    have r5 := RpA.mono ((g3.tr g4).tr g5).f _ _ r2
    cases b with
    | true =>
      have hc : (it1 e4).bind (fun q => (compL vs1 g1 t1 ev q.1 (wipeE q.2 vs1) dacc).bind fun r => compL2 vs vs1 g t it1 g1 t1 ev (ds.drop (i + 1)) (wipeE r.2 vs) r.1) = some (res, e2) := hc
      obtain ⟨⟨ds1, e5⟩, hi1, hc⟩ := bind2 hc
      obtain ⟨⟨res1, e6⟩, hin, hc⟩ := bind2 hc
      refine iteT (in_core (qt := qt1) (qe := qe) hts1 hD b1 R5 (G4.tr g5) D5 N5 E5 r5 hi1 hin fun F' H' ow' acc' R' G' d' n' f' r' => ⟨F', ow', wipeE e6 vs, acc', res1, ?_, G', d', n', f', r', hc, fun j s e hj => ?_⟩)
      · refine R'.wipes (by rw [wl, wipe_length]) fun j nj => ?_
        rw [wipe_get fun z => nj (hvs j z)]
        exact (n4 j fun z => nj (hts j z)).symm
      · rcases wipeE_get e with z | ⟨n, _⟩
        · exact z
        · exact absurd hj n
    | false =>
      have hc : compL2 vs vs1 g t it1 g1 t1 ev (ds.drop (i + 1)) (wipeE e4 vs) dacc = some (res, e2) := hc
      refine iteF ⟨F5, ow5, wipeE e4 vs, acc, dacc, ?_, G4.tr g5, D5, N5, E5, r5, hc, fun j s e hj => ?_⟩
      · exact R5.wipes wl fun j nj => (n4 j fun z => nj (hts j z)).symm
      · rcases wipeE_get e with z | ⟨n, _⟩
        · exact z
        · exact absurd hj n
  · have e0 : ds.drop i = [] := List.drop_eq_nil_of_le (by omega)
    rw [e0, compL2] at hc
    cases hc
    refine .inl ⟨w2 (by omega), k (.ref D) F2 H2 ow2 ?_ (gr1.tr g2) (fun z => nomatch z) ⟨rfl, (fun z => nomatch z), fun a => a = D, fun a ha => ?_, D, acc, rfl, rfl, hD2, r2⟩⟩
    · refine ⟨R2.fh, R2.f0, R2.bh, R2.fb, R2.dom, R2.sep, by rw [R2.len, wipe_length], fun j s e => ?_, fun j s e p => ?_⟩
      · by_cases z : j ∈ vs
        · exact .inl (hu j s e z)
        · rw [← wipe_get z]; exact R2.sl j s e
      · by_cases z : j ∈ vs
        · rw [hu j s e z] at p; cases p
        · rw [← wipe_get z]; exact R2.pr j s e p
    · subst ha
      exact ⟨n2, f2, b1, ne_of_some hD2, fun hn on => gr1.dom a hn hD⟩
theorem se_comp2 {vs vs1 ts ts1 : List Nat} {q q1 qt qt1 qe : Bool} {it it1 : EvA} {g g1 : PyData → SEnv → Option SEnv} {t t1 : EvT} {ev : EvB} (hc : X.calm = true) (hN : X.N.Nodup) (ok : BlkOk X.N X.env.scope scope own) (hvs : own.map (·.2) = vs) (hts : ts.all (fun j => decide (j ∈ vs)) = true) (hts1 : ts1.all (fun j => decide (j ∈ vs1)) = true) (hv1 : vs1.all (fun j => decide (j ∈ vs)) = true) (hi : SI E X tg iter q it)
    (hg : ∀ (s : Shared) (H : Hp) (C : Addr) (cl : List (Str × Addr)) (fp : List Addr), SG E (X.blk s H scope (compEnvC scope cl C X.env) fp) tg ts g)
    (ht : ∀ (s : Shared) (H : Hp) (C : Addr) (cl : List (Str × Addr)) (fp : List Addr), STs E (X.blk s H scope (compEnvC scope cl C X.env) fp) ifs qt t)
    (hi1 : ∀ (s : Shared) (H : Hp) (C : Addr) (cl : List (Str × Addr)) (fp : List Addr), SI E (X.blk s H scope (compEnvC scope cl C X.env) fp) tg1 iter1 q1 it1)
    (hg1 : ∀ (s : Shared) (H : Hp) (C : Addr) (cl : List (Str × Addr)) (fp : List Addr), SG E (X.blk s H scope (compEnvC scope cl C X.env) fp) tg1 ts1 g1)
    (ht1 : ∀ (s : Shared) (H : Hp) (C : Addr) (cl : List (Str × Addr)) (fp : List Addr), STs E (X.blk s H scope (compEnvC scope cl C X.env) fp) ifs1 qt1 t1)
    (he : ∀ (s : Shared) (H : Hp) (C : Addr) (cl : List (Str × Addr)) (fp : List Addr), SP E (X.blk s H scope (compEnvC scope cl C X.env) fp) elt qe ev)
    (hs : ∀ x, foldedSetIterable iter X.env x = pure x := by intro _; rfl) (hs1 : ∀ env x, foldedSetIterable iter1 env x = pure x := by intro _ _; rfl) : SE E X (.ListComp elt [⟨tg, iter, ifs, 0⟩, ⟨tg1, iter1, ifs1, 0⟩] scope pos) false (evComp2 vs vs1 it g t it1 g1 t1 ev) := ⟨fun fr => by
  subst hvs
  have hv : ∀ j ∈ vs1, j ∈ own.map (·.2) := fun j hj => by simpa using List.all_eq_true.mp hv1 j hj
  exact (pe_lc2 hc hN (hi.pi fr) ok hv (fun s H C cl fp => (hg s H C cl fp).pg fr) (fun s H C cl fp => (ht s H C cl fp).pt fr) (fun s H C cl fp => (hi1 s H C cl fp).pi fr) (fun s H C cl fp => (hg1 s H C cl fp).pg fr) (fun s H C cl fp => (ht1 s H C cl fp).pt fr) (fun s H C cl fp => (he s H C cl fp).pe fr) hs hs1).weak fun σ H Q h =>
    comp2_core (fun j hj => by simpa using List.all_eq_true.mp hts j hj) (fun j hj => by simpa using List.all_eq_true.mp hts1 j hj) hv h⟩
/-- name = [.. for .. for ..], on one line -/
theorem ss_setLc2 {i : Nat} {y : Str} {py : Pos} {vs vs1 ts ts1 : List Nat} {q q1 qt qt1 qe : Bool} {it it1 : EvA} {g g1 : PyData → SEnv → Option SEnv} {t t1 : EvT} {ev : EvB} (hc : X.calm = true) (hN : X.N.Nodup) (hy : X.N[i]? = some y) (hyl : X.env.scope.names.lookup y = some .local)
    (hsw : swapsWith (.ListComp elt [⟨tg, iter, ifs, 0⟩, ⟨tg1, iter1, ifs1, 0⟩] scope pos) (some (.Name y py)) spos.line X.env = pure true) (ok : BlkOk X.N X.env.scope scope own) (hvs : own.map (·.2) = vs) (hts : ts.all (fun j => decide (j ∈ vs)) = true) (hts1 : ts1.all (fun j => decide (j ∈ vs1)) = true) (hv1 : vs1.all (fun j => decide (j ∈ vs)) = true) (hi : SI E X tg iter q it)
    (hg : ∀ (s : Shared) (H : Hp) (C : Addr) (cl : List (Str × Addr)) (fp : List Addr), SG E (X.blk s H scope (compEnvC scope cl C X.env) fp) tg ts g)
    (ht : ∀ (s : Shared) (H : Hp) (C : Addr) (cl : List (Str × Addr)) (fp : List Addr), STs E (X.blk s H scope (compEnvC scope cl C X.env) fp) ifs qt t)
    (hi1 : ∀ (s : Shared) (H : Hp) (C : Addr) (cl : List (Str × Addr)) (fp : List Addr), SI E (X.blk s H scope (compEnvC scope cl C X.env) fp) tg1 iter1 q1 it1)
    (hg1 : ∀ (s : Shared) (H : Hp) (C : Addr) (cl : List (Str × Addr)) (fp : List Addr), SG E (X.blk s H scope (compEnvC scope cl C X.env) fp) tg1 ts1 g1)
    (ht1 : ∀ (s : Shared) (H : Hp) (C : Addr) (cl : List (Str × Addr)) (fp : List Addr), STs E (X.blk s H scope (compEnvC scope cl C X.env) fp) ifs1 qt1 t1)
    (he : ∀ (s : Shared) (H : Hp) (C : Addr) (cl : List (Str × Addr)) (fp : List Addr), SP E (X.blk s H scope (compEnvC scope cl C X.env) fp) elt qe ev)
    (hs : ∀ x, foldedSetIterable iter X.env x = pure x := by intro _; rfl) (hs1 : ∀ env x, foldedSetIterable iter1 env x = pure x := by intro _ _; rfl) : SS E X (.Assign [.Name y py] (.ListComp elt [⟨tg, iter, ifs, 0⟩, ⟨tg1, iter1, ifs1, 0⟩] scope pos) spos) (xSet i (evComp2 vs vs1 it g t it1 g1 t1 ev)) := ⟨fun fr => by
  subst hvs
  have hv : ∀ j ∈ vs1, j ∈ own.map (·.2) := fun j hj => by simpa using List.all_eq_true.mp hv1 j hj
  refine (ps_setLc2 hc hN hy hyl hsw (hi.pi fr) ok hv (fun s H C cl fp => (hg s H C cl fp).pg fr) (fun s H C cl fp => (ht s H C cl fp).pt fr) (fun s H C cl fp => (hi1 s H C cl fp).pi fr) (fun s H C cl fp => (hg1 s H C cl fp).pg fr) (fun s H C cl fp => (ht1 s H C cl fp).pt fr) (fun s H C cl fp => (he s H C cl fp).pe fr) hs hs1).weak fun D σ H ⟨F, ow, env, o, R, ee, k⟩ => ?_
  obtain ⟨⟨r, e1⟩, h1, h⟩ := bind2 ee
  obtain ⟨e2, h2, h⟩ := Option.map_eq_some_iff.mp h
  cases h
  obtain ⟨s, h3, h4, rfl⟩ := stS_some h2
  refine comp2_core (E := E) (fr := fr) (it := it) (g := g) (t := t) (ev := ev) (fun j hj => by simpa using List.all_eq_true.mp hts j hj) (fun j hj => by simpa using List.all_eq_true.mp hts1 j hj) hv ⟨F, ow, env, r, e1, R, h1, fun v F' H' ow' R' g hq rs => ?_⟩
  obtain ⟨ow2, R2⟩ := R'.store h3 h4 rs
  exact k F' H' ow2 _ R2 g.f⟩
end
end IX
namespace IX
open PySem PySem.Spec PyProof.Rows L2
section
variable {vs vs1 : List Nat} {g g1 : PyData → SEnv → Option SEnv} {t t1 : EvT} {it it1 : EvA} {ev : EvB} {env : SEnv} {acc ds : List PyData} {d : PyData}
@[simp] theorem e_Comp2 : evComp2 vs vs1 it g t it1 g1 t1 ev env = (it env).bind fun p => (compL2 vs vs1 g t it1 g1 t1 ev p.1 (wipeE p.2 vs) []).map fun q => (.own false q.1, q.2) := rfl
@[simp] theorem e_comp20 : compL2 vs vs1 g t it1 g1 t1 ev [] env acc = some (acc, env) := rfl
theorem e_comp21 : compL2 vs vs1 g t it1 g1 t1 ev (d :: ds) env acc = (g d env).bind fun e1 => (t e1).bind fun p => if p.1 = true then (it1 p.2).bind fun q => (compL vs1 g1 t1 ev q.1 (wipeE q.2 vs1) acc).bind fun r => compL2 vs vs1 g t it1 g1 t1 ev ds (wipeE r.2 vs) r.1
      else compL2 vs vs1 g t it1 g1 t1 ev ds (wipeE p.2 vs) acc := rfl
end
end IX
namespace IX
open PySem
theorem bt_sorted : bootBuiltins "sorted" = some (.builtin "sorted") := by decide +kernel
end IX

/-! text IX50 -/
set_option maxHeartbeats 1000000
/-! Instances with data fields: their fields, their methods, how they are made; an instance that no name holds. -/
namespace IX
open PySem PySem.Spec PyProof.Rows L2
variable [KC]
section
variable {E : ExtK} {fr : Fra} {F H F' H' F0 H0 : Hp} {ow ow' ow0 : Ow} {env env' : SEnv} {σ : L2.St} {v : V} {s r : Slot}
theorem get_snoc {α : Type} (l : List α) (a : α) : (l ++ [a])[l.length]? = some a := by simp
theorem get_snoc_lt {α : Type} {l : List α} {a b : α} {j : Nat} (h : l[j]? = some b) : (l ++ [a])[j]? = some b := by
  have := (List.getElem?_eq_some_iff.mp h).1
  rw [List.getElem?_append_left this]; exact h
open Classical in
/-- one more slot: it takes a result over -/
theorem Rel.push (R : Rel E fr F H ow env σ) (g : Grow F0 H0 ow0 F H ow) (rs : Res E fr H0 ow0 F H ow v s) :
    ∃ ow', Rel E fr F H ow' (env ++ [s]) (σ ++ [some v]) ∧ Grow F0 H0 ow0 F H ow' := by
  obtain ⟨hp, nu, S, hS, hs⟩ := rs
  refine ⟨fun a => if S a then some env.length else ow a, ⟨R.fh, R.f0, R.bh, R.fb, R.dom, fun a j e => ?_, by rw [List.length_append, List.length_append, R.len]; rfl, fun j t e => ?_, fun j t e p => ?_⟩, ⟨g.f, g.h, g.dom, fun a h n => ?_⟩⟩
  · have e : (if S a then some env.length else ow a) = some j := e
    split at e
    · rename_i z
      obtain ⟨_, f, b, hh, _⟩ := hS a z
      exact ⟨f, b, hh⟩
    · exact R.sep a j e
  · by_cases z : j < env.length
    · rw [List.getElem?_append_left z] at e
      rcases R.sl j t e with y | ⟨u, e1, q⟩
      · exact .inl y
      · refine .inr ⟨u, get_snoc_lt e1, q.mono E (Ex.refl _) (fun a (ha : ow a = some j) => ?_) fun _ _ => rfl⟩
        show (if S a then some env.length else ow a) = some j
        rw [if_neg (fun y => by rw [(hS a y).1] at ha; cases ha)]; exact ha
    · have ej : j = env.length := by
        have := (List.getElem?_eq_some_iff.mp e).1
        rw [List.length_append] at this
        simp at this; omega
      subst ej
      rw [get_snoc] at e
      cases e
      refine .inr ⟨v, by rw [R.len, get_snoc], hs.mono E (Ex.refl _) (fun a sa => if_pos sa) fun _ _ => rfl⟩
  · by_cases z : j < env.length
    · rw [List.getElem?_append_left z] at e
      obtain ⟨u, e1, e2⟩ := R.pr j t e p
      exact ⟨u, e1, get_snoc_lt e2⟩
    · have ej : j = env.length := by
        have := (List.getElem?_eq_some_iff.mp e).1
        rw [List.length_append] at this
        simp at this; omega
      subst ej
      rw [get_snoc] at e
      cases e
      rw [hp] at p; cases p
  · obtain ⟨e, n'⟩ := g.fz a h n
    refine ⟨e, ?_⟩
    show (if S a then some env.length else ow a) = none
    rw [if_neg (fun z => (hS a z).2.2.2.2 h n)]; exact n'
/-- the last slot is given up -/
theorem Rel.pop (R : Rel E fr F H ow (env ++ [s]) (σ ++ [some v])) (g : Grow F0 H0 ow0 F H ow) (hp : s.par = false) (nu : s ≠ .und) :
    ∃ ow', Rel E fr F H ow' env σ ∧ Grow F0 H0 ow0 F H ow' ∧ Res E fr H0 ow0 F H ow' v s ∧ ∀ a, ow a = none → ow' a = none := by
  have ln : env.length = σ.length := by have := R.len; rw [List.length_append, List.length_append] at this; simp at this; exact this
  refine ⟨fun a => if ow a = some env.length then none else ow a, ⟨R.fh, R.f0, R.bh, R.fb, R.dom, fun a j e => ?_, ln, fun j t e => ?_, fun j t e p => ?_⟩, g.tr (Grow.drop (i := env.length)), ⟨hp, nu, fun a => ow a = some env.length, fun a ha => ?_, ?_⟩, fun a n => ?_⟩
  · have e : (if ow a = some env.length then none else ow a) = some j := e
    split at e
    · cases e
    · exact R.sep a j e
  · have z : j < env.length := (List.getElem?_eq_some_iff.mp e).1
    rcases R.sl j t (get_snoc_lt e) with y | ⟨u, e1, q⟩
    · exact .inl y
    · rw [List.getElem?_append_left (by omega)] at e1
      refine .inr ⟨u, e1, q.mono E (Ex.refl _) (fun a (ha : ow a = some j) => ?_) fun _ _ => rfl⟩
      show (if ow a = some env.length then none else ow a) = some j
      rw [if_neg (fun y => by rw [ha] at y; cases y; omega)]; exact ha
  · have z : j < env.length := (List.getElem?_eq_some_iff.mp e).1
    obtain ⟨u, e1, e2⟩ := R.pr j t (get_snoc_lt e) p
    rw [List.getElem?_append_left (by omega)] at e2
    exact ⟨u, e1, e2⟩
  · have ha : ow a = some env.length := ha
    obtain ⟨f, b, hh⟩ := R.sep a _ ha
    refine ⟨if_pos ha, f, b, hh, fun h n => ?_⟩
    rw [(g.fz a h n).2] at ha; cases ha
  · rcases R.sl env.length s (get_snoc _ _) with y | ⟨u, e1, q⟩
    · exact absurd y nu
    · rw [ln, get_snoc] at e1
      cases e1
      exact q
  · show (if ow a = some env.length then none else ow a) = none
    rw [if_neg (fun z => by rw [n] at z; cases z)]; exact n
theorem Res.own {u : V} {ow1 : Ow} (h : Res E fr H0 ow0 F H ow u r) (w : ∀ a, ow a = none → ow1 a = none) : Res E fr H0 ow0 F H ow1 u r := by
  obtain ⟨h1, h2, S, hS, hs⟩ := h
  exact ⟨h1, h2, S, fun a sa => ⟨w a (hS a sa).1, (hS a sa).2⟩, hs⟩
/-! arguments over one more slot -/
theorem ArgsOk.snoc {u : Option V} : ∀ {vs : List V} {as : List Arg}, ArgsOk F σ vs as → ArgsOk F (σ ++ [u]) vs as
  | _, _, .nil => .nil
  | _, _, .val r t => .val r t.snoc
  | _, _, .ref r t => .ref (get_snoc_lt r) t.snoc
theorem argS_snoc {a : Arg} {t : Slot} (h : argS env a = some t) : argS (env ++ [s]) a = some t := by
  cases a with
  | val d => exact h
  | ref j =>
    obtain ⟨s0, h0, ob, rfl⟩ := argS_ref h
    show (match (env ++ [s])[j]? with
      | some (.own _ ds) => some (.own true ds)
      | some (.ext _ t g) => some (.ext true t g)
      | _ => none) = some (s0.mark true)
    rw [get_snoc_lt h0]
    cases s0 <;> first | rfl | (cases ob)
theorem argSs_snoc : ∀ {as : List Arg} {ss : List Slot}, argSs env as = some ss → argSs (env ++ [s]) as = some ss
  | [], _, h => h
  | a :: as, ss, h => by
    obtain ⟨t, h1, h⟩ := bind2 h
    obtain ⟨ss', h2, h⟩ := Option.map_eq_some_iff.mp h
    subst h
    show ((argS (env ++ [s]) a).bind fun t => (argSs (env ++ [s]) as).map fun ts => t :: ts) = _
    rw [argS_snoc h1, argSs_snoc h2]; rfl
theorem refIx_out : ∀ {as : List Arg} {ss : List Slot}, argSs env as = some ss → refIx as env.length = none
  | [], _, _ => rfl
  | .val d :: as, ss, h => by
    obtain ⟨t, h1, h⟩ := bind2 h
    obtain ⟨ss', h2, h⟩ := Option.map_eq_some_iff.mp h
    unfold refIx
    rw [refIx_out h2]; rfl
  | .ref j :: as, ss, h => by
    obtain ⟨t, h1, h⟩ := bind2 h
    obtain ⟨ss', h2, h⟩ := Option.map_eq_some_iff.mp h
    obtain ⟨s0, h0, _, _⟩ := argS_ref h1
    have z : j < env.length := (List.getElem?_eq_some_iff.mp h0).1
    unfold refIx
    rw [if_neg (by omega), refIx_out h2]; rfl
theorem backS_snoc : ∀ {as : List Arg} {os : List Slot} {env env' : SEnv}, backS as os env = some env' → backS as os (env ++ [s]) = some (env' ++ [s])
  | [], _, _, _, h => by cases h; rfl
  | .val _ :: as, _ :: os, _, _, h => backS_snoc (as := as) (os := os) h
  | .val _ :: as, [], _, _, h => by cases h
  | .ref _ :: as, [], _, _, h => by cases h
  | .ref j :: as, o :: os, env, env', h => by
    have go : ∀ {t : Slot} {t' : Slot}, env[j]? = some t → backS as os (env.set j t') = some env' → backS as os ((env ++ [s]).set j t') = some (env' ++ [s]) := fun {t t'} h0 h => by
      have z : j < env.length := (List.getElem?_eq_some_iff.mp h0).1
      rw [List.set_append_left _ _ z]
      exact backS_snoc h
    have up : ∀ {t : Slot}, env[j]? = some t → (env ++ [s])[j]? = some t := fun h0 => get_snoc_lt h0
    unfold backS at h ⊢
    split at h
    · rename_i p ds ds' e1; rw [up e1]; exact go e1 h
    · rename_i p t g t' g' e1; rw [up e1]; exact go e1 h
    · rename_i p ds t g e1; rw [up e1]; exact go e1 h
    · rename_i p t g ds' e1; rw [up e1]; exact go e1 h
    · cases h
theorem refsOk_tmp {as : List Arg} {ss : List Slot} (h : refsOk as = true) (hs : argSs env as = some ss) : refsOk (.ref env.length :: as) = true := by
  unfold refsOk
  rw [h, refIx_out hs]; rfl
theorem mark_mark {p q : Bool} (s : Slot) : (s.mark p).mark q = s.mark q := by cases s <;> rfl
theorem backS_tmp {as : List Arg} {o : Slot} {os : List Slot} (h : backS as os env = some env') (so : s.isObj = true) (sp : s.par = false) (oo : o.isObj = true) (op : o.par = true) : backS (.ref env.length :: as) (o :: os) (env ++ [s]) = some (env' ++ [o.mark false]) := by
  have st : ∀ t : Slot, backS as os ((env ++ [s]).set env.length t) = some (env' ++ [t]) := fun t => by
    rw [List.set_append_right _ _ (Nat.le_refl _), Nat.sub_self]
    exact backS_snoc h
  unfold backS
  rw [get_snoc]
  cases s <;> first
    | (cases so; done)
    | (cases sp
       cases o <;> first
        | (cases oo; done)
        | (cases op; exact st _))
end
/-! ### a call with an object of nobody's ahead -/
/-- the value: the object's state s, the further arguments, what it is behind -/
def tmpRun (f : FSem) (s : Slot) (as : List Arg) (env : SEnv) : Option (Slot × Slot × SEnv) :=
  if refsOk as = true ∧ s.isObj = true ∧ s.par = false then (argSs env as).bind fun ss => (f (s.mark true :: ss)).bind fun q => match q.2 with
    | o :: os => if o.isObj = true ∧ o.par = true then (backS as os env).map fun e => (q.1, o.mark false, e) else none
    | [] => none
  else none
section
variable {E : ExtK} {fr : Fra} {F H F0 H0 : Hp} {ow ow0 : Ow} {env env' : SEnv} {σ : L2.St} {v : V} {s o r : Slot} {as : List Arg} {vs : List V} {f : FSem} {n : Nat} {Q : VK} {XE : XK}
theorem tmp_core (R : Rel E fr F H ow env σ) (g : Grow F0 H0 ow0 F H ow) (rs : Res E fr H0 ow0 F H ow v s) (ha : ArgsOk F σ vs as) (hn : as.length + 1 = n) (hr : tmpRun f s as env = some (r, o, env'))
    (k : ∀ u F' H' ow', Rel E fr F' H' ow' env' σ → Grow F0 H0 ow0 F' H' ow' → Res E fr H0 ow0 F' H' ow' u r → Res E fr H0 ow0 F' H' ow' v o → Q u H') : spI E f n (v :: vs) H Q XE := by
  unfold tmpRun at hr
  split at hr
  · rename_i hc
    obtain ⟨ok, so, sp⟩ := hc
    obtain ⟨ss, h1, hr⟩ := bind2 hr
    obtain ⟨⟨r', outs⟩, h2, hr⟩ := bind2 hr
    cases outs with
    | nil => cases hr
    | cons o' os =>
      have hr : (if o'.isObj = true ∧ o'.par = true then (backS as os env).map fun e => (r', o'.mark false, e) else none) = some (r, o, env') := hr
      split at hr
      · rename_i ho
        obtain ⟨oo, op⟩ := ho
        obtain ⟨e1, h3, hr⟩ := Option.map_eq_some_iff.mp hr
        cases hr
        obtain ⟨ow1, R1, g1⟩ := R.push g rs
        have as1 : argSs (env ++ [s]) (.ref env.length :: as) = some (s.mark true :: ss) := by
          show ((argS (env ++ [s]) (.ref env.length)).bind fun t => (argSs (env ++ [s]) as).map fun ts => t :: ts) = _
          have : argS (env ++ [s]) (.ref env.length) = some (s.mark true) := by
            show (match (env ++ [s])[env.length]? with
              | some (.own _ ds) => some (.own true ds)
              | some (.ext _ t g) => some (.ext true t g)
              | _ => none) = some (s.mark true)
            rw [get_snoc]
            cases s <;> first | (cases so; done) | rfl
          rw [this, argSs_snoc h1]; rfl
        have hv : (σ ++ [some v])[env.length]? = some (some v) := by rw [R.len, get_snoc]
        refine call_core (q := false) (br := true) R1 g1 (fun z => nomatch z) (.ref hv ha.snoc) (by rw [List.length_cons]; exact hn) (refsOk_tmp ok h1) as1 h2 (backS_tmp h3 so sp oo op) (fun z => nomatch z) fun u F2 H2 ow2 R2 g2 _ r2 => ?_
        obtain ⟨ow3, R3, g3, ro, w⟩ := R2.pop g2 (mark_par oo) (fun z => by cases o' <;> first | (cases oo; done) | (cases z))
        exact k u F2 H2 ow3 R3 g3 (r2.own w) ro
      · cases hr
  · cases hr
end
end IX

/-! text IX51 -/
set_option maxHeartbeats 1000000
/-! Fields of instances with data fields; calls of methods, makers, properties where no repr is under way. -/
namespace IX
open PySem PySem.Spec PyProof.Rows L2
variable [KC]
/-! ### what such an instance holds -/
def putO : List (PyData × PyData) → Str → PyData → List (PyData × PyData)
  | [], z, d => [(.str z, d)]
  | (.str k, e) :: r, z, d => if k = z then (.str k, d) :: r else (.str k, e) :: putO r z d
  | p :: r, z, d => p :: putO r z d
theorem KVs.get {F : Hp} {z : Str} : ∀ {fs : List (Str × V)} {es : List (PyData × PyData)}, KVs F fs es → (∀ d, getE es z = some d → ∃ v, fs.lookup z = some v ∧ Rp F v d) ∧ (getE es z = none → fs.lookup z = none)
  | _, _, .nil => ⟨fun d h => (by cases h), fun _ => rfl⟩
  | _, _, .cons (z := k) r t => by
    obtain ⟨h1, h2⟩ := KVs.get (z := z) t
    unfold getE
    rw [List.lookup_cons]
    by_cases e : k = z
    · subst e
      rw [if_pos rfl, beq_self_eq_true]
      exact ⟨fun d h => ⟨_, rfl, by cases h; exact r⟩, fun h => by cases h⟩
    · rw [if_neg e, show (z == k) = false from beq_eq_false_iff_ne.mpr (Ne.symm e)]
      exact ⟨h1, h2⟩
theorem KVs.put {F : Hp} {z : Str} {v : V} {d : PyData} (rv : Rp F v d) : ∀ {fs : List (Str × V)} {es : List (PyData × PyData)}, KVs F fs es → KVs F (putF z v fs) (putO es z d)
  | _, _, .nil => .cons rv .nil
  | _, _, .cons (z := k) r t => by
    have ih := KVs.put (z := z) rv t
    unfold putF putO
    by_cases e : k = z
    · subst e
      rw [if_pos rfl, if_pos rfl]
      exact .cons rv t
    · rw [if_neg e, if_neg e]
      exact .cons r ih
theorem KVs.len {F : Hp} : ∀ {fs : List (Str × V)} {es : List (PyData × PyData)}, KVs F fs es → fs.length = es.length
  | _, _, .nil => rfl
  | _, _, .cons _ t => by rw [List.length_cons, List.length_cons, t.len]
/-- the slot's instance -/
def objOf (C : Str) : Slot → Option (List (PyData × PyData))
  | .ext _ t (.dict ((.none, .str c) :: es)) => if t = 6 ∧ c = C then some es else none
  | _ => none
theorem objOf_some {C : Str} {s : Slot} {es : List (PyData × PyData)} (h : objOf C s = some es) : ∃ b, s = .ext b 6 (objS C es) := by
  unfold objOf at h
  split at h
  · split at h
    · rename_i z; obtain ⟨rfl, rfl⟩ := z; cases h; exact ⟨_, rfl⟩
    · cases h
  · cases h
def objAt (C : Str) (env : SEnv) (i : Nat) : Option (Bool × List (PyData × PyData)) := (env[i]?).bind fun s => (objOf C s).map fun es => (s.par, es)
theorem objAt_some {C : Str} {env : SEnv} {i : Nat} {b : Bool} {es : List (PyData × PyData)} (h : objAt C env i = some (b, es)) : env[i]? = some (.ext b 6 (objS C es)) := by
  obtain ⟨s, h1, h⟩ := bind2 h
  obtain ⟨es', h2, h⟩ := Option.map_eq_some_iff.mp h
  cases h
  obtain ⟨b', rfl⟩ := objOf_some h2
  exact h1
theorem Sl.obj {F H : Hp} {S : Addr → Prop} {v : V} {b : Bool} {C : Str} {es : List (PyData × PyData)} (h : Sl E0 F H S v (.ext b 6 (objS C es))) : ∃ p, v = .ref p ∧ InsAt F H S p C es := by
  rcases h with ⟨p, vs, ds', rfl, s, h, o, eg, bx⟩ | ⟨a, vs, ds', rfl, hf, r, eg⟩ | ⟨p, es', rfl, eg, d, et⟩ | ⟨_, _, et, _⟩ | ⟨_, _, et, _⟩ | ⟨p, C', es', et, rfl, eg, d⟩ | ⟨_, _, et, _⟩
  · cases eg
  · cases eg
  · cases et
  · cases et
  · cases et
  · cases eg; exact ⟨p, rfl, d⟩
  · exact absurd et (by decide)
theorem Rel.obj {fr : Fra} {F H : Hp} {ow : Ow} {env : SEnv} {σ : L2.St} {i : Nat} {b : Bool} {C : Str} {es : List (PyData × PyData)} (R : Rel E0 fr F H ow env σ) (h : objAt C env i = some (b, es)) : ∃ p, σ[i]? = some (some (.ref p)) ∧ InsAt F H (fun a => ow a = some i) p C es := by
  rcases R.sl i _ (objAt_some h) with z | ⟨v, h1, q⟩
  · cases z
  · obtain ⟨p, rfl, q2⟩ := Sl.obj q
    exact ⟨p, h1, q2⟩
/-- a field of it is rewritten -/
theorem Rel.objPut {fr : Fra} {F H : Hp} {ow : Ow} {env : SEnv} {σ : L2.St} {i : Nat} {b : Bool} {C f : Str} {es : List (PyData × PyData)} {p dx : Addr} {fs : List (Str × V)} {y : V} {d : PyData} (R : Rel E0 fr F H ow env σ) (h : objAt C env i = some (b, es)) (hv : σ[i]? = some (some (.ref p)))
    (op : ow p = some i) (ox : ow dx = some i) (hp : H p = some (.ins (He.ga KC.K C) dx fs)) (hx : H dx = some (.own p)) (r : KVs F fs es) (ry : Rp F y d) :
    Rel E0 fr F (upd H p (.ins (He.ga KC.K C) dx (putF f y fs))) ow (env.set i (.ext b 6 (objS C (putO es f d)))) σ := by
  have nx : dx ≠ p := fun z => by subst z; rw [hp] at hx; cases hx
  refine R.chg (objAt_some h) hv (fun a n => upd_ne fun z => n (z ▸ op)) (fun a ha => ?_) (.inr (.inr (.inr (.inr (.inr (.inl ⟨p, C, _, rfl, rfl, rfl, ⟨dx, _, op, ox, upd_same, by rw [upd_ne nx]; exact hx, r.put ry⟩⟩)))))) rfl
  by_cases z : a = p
  · subst z; rw [upd_same]; exact fun z => nomatch z
  · rw [upd_ne z]; exact (R.sep a i ha).2.2
/-- what is asked of the class -/
structure ClsT (C : Str) (fl : List Str) : Prop where
  cl : Cls KC.K (He.ga KC.K C)
  na : ∀ f ∈ fl, NoAttr KC.K (He.ga KC.K C) f
section
variable {X : Cx} [hx : KX X] {e : Expr} {es : List Expr} {p pos ap : Pos} {x C f : Str} {i : Nat} {fl : List Str}
theorem ClsT.c (T : ClsT C fl) : Cls X.K (He.ga KC.K C) := by rw [hx.eq]; exact T.cl
theorem ClsT.n (T : ClsT C fl) (h : f ∈ fl) : NoAttr X.K (He.ga KC.K C) f := by rw [hx.eq]; exact T.na f h
/-! ### x.f, x.f = e, x.f op= e -/
def evFd (C : Str) (i : Nat) (f : Str) : EvB := fun env => (objAt C env i).bind fun q => (getE q.2 f).map fun d => (d, env)
theorem sp_fd (T : ClsT C fl) (h : PE X (.Name x p) (tVar i)) (hf : f ∈ fl := by decide) (hb : attributeBase (.Name x p) f X.env (eval (.Name x p) X.env) = eval (.Name x p) X.env := by rfl) :
    SP E0 X (.Attribute (.Name x p) f ap) true (evFd C i f) := ⟨fun fr => (pe_fld h hb).weak fun σ H Q ⟨F, ow, env, d, env', R, ee, k⟩ => by
  obtain ⟨⟨b, es⟩, h1, ee⟩ := bind2 ee
  obtain ⟨d', h2, ee⟩ := Option.map_eq_some_iff.mp ee
  cases ee
  obtain ⟨q, hv, I⟩ := R.obj h1
  obtain ⟨dx, fs, s1, s2, g1, g2, r⟩ := I.ex
  obtain ⟨v, hl, rv⟩ := (r.get (z := f)).1 _ h2
  exact ⟨_, hv, q, He.ga KC.K C, dx, fs, v, rfl, g1, T.c, T.n hf, hl, k v F H ow R Grow.refl (fun _ => Ex.refl _) rv⟩⟩
def xFd (C : Str) (i : Nat) (f : Str) (ev : EvB) : EvS := fun env => (ev env).bind fun q => (objAt C q.2 i).bind fun o => if o.2.length < 1000 then some (.nxt (q.2.set i (.ext o.1 6 (objS C (putO o.2 f q.1))))) else none
theorem ss_fd {q : Bool} {ev : EvB} (T : ClsT C fl) (h : PE X (.Name x p) (tVar i)) (he : SP E0 X e q ev) (hf : f ∈ fl := by decide) (hs : swapsWith e (some (.Attribute (.Name x p) f ap)) pos.line X.env = pure false := by rfl) :
    SS E0 X (.Assign [.Attribute (.Name x p) f ap] e pos) (xFd C i f ev) := ⟨fun fr => (ps_fld h (he.pe fr) hs).weak fun D σ H ⟨F, ow, env, o, R, ee, k⟩ => by
  obtain ⟨⟨d, e1⟩, g1, ee⟩ := bind2 ee
  obtain ⟨⟨b, es⟩, g2, ee⟩ := bind2 ee
  have ee : (if es.length < 1000 then some (Out.nxt (e1.set i (.ext b 6 (objS C (putO es f d))))) else none) = some o := ee
  split at ee
  · rename_i hlt
    cases ee
    refine ⟨F, ow, env, d, e1, R, g1, fun v F1 H1 ow1 R1 gr1 q1 r1 => ?_⟩
    obtain ⟨a, hv, I⟩ := R1.obj g2
    obtain ⟨dx, fs, s1, s2, h1, h2, r⟩ := I.ex
    exact ⟨_, hv, a, He.ga KC.K C, dx, fs, rfl, h1, T.c, T.n hf, by rw [r.len]; exact hlt, k F1 _ ow1 _ (R1.objPut g2 hv s1 s2 h1 h2 r r1) gr1.f⟩
  · cases ee⟩
def xFdAug (C : Str) (i : Nat) (f : Str) (g : PyData → PyData → Option Slot) (ev : EvB) : EvS := fun env => (objAt C env i).bind fun o => (getE o.2 f).bind fun d0 => (ev env).bind fun q => match g d0 q.1 with
  | some (.pur d) => (objAt C q.2 i).bind fun o' => if o'.2.length < 1000 then some (.nxt (q.2.set i (.ext o'.1 6 (objS C (putO o'.2 f d))))) else none
  | _ => none
theorem ss_fdAug {q st : Bool} {ev : EvB} {op : Operator} {g : PyData → PyData → Option Slot} (T : ClsT C fl) (h : PE X (.Name x p) (tVar i)) (he : SB E0 X e q st ev) (ho : BinV X (inplaceOp op) g) (hf : f ∈ fl := by decide) :
    SS E0 X (.AugAssign (.Attribute (.Name x p) f ap) op e pos) (xFdAug C i f g ev) := ⟨fun fr => (ps_fldaug (rd := rBinV g) h (he.pe fr) ho).weak fun D σ H ⟨F, ow, env, o, R, ee, k⟩ => by
  obtain ⟨⟨b0, es0⟩, g0, ee⟩ := bind2 ee
  obtain ⟨d0, g1, ee⟩ := bind2 ee
  obtain ⟨⟨d', e1⟩, g2, ee⟩ := bind2 ee
  dsimp only at ee
  split at ee
  · rename_i d g3
    obtain ⟨⟨b, es⟩, g4, ee⟩ := bind2 ee
    have ee : (if es.length < 1000 then some (Out.nxt (e1.set i (.ext b 6 (objS C (putO es f d))))) else none) = some o := ee
    split at ee
    · rename_i hlt
      cases ee
      obtain ⟨a, hv, I⟩ := R.obj g0
      obtain ⟨dx, fs, s1, s2, h1, h2, r⟩ := I.ex
      obtain ⟨v0, hl, rv0⟩ := (r.get (z := f)).1 _ g1
      refine ⟨_, hv, a, He.ga KC.K C, dx, fs, v0, rfl, h1, T.c, T.n hf, hl, F, ow, env, d', e1, R, g2, fun w F1 H1 ow1 R1 gr1 q1 r1 => ?_⟩
      refine ⟨F1, d0, d', _, R1.fh, .inl (Rp.mono gr1.f _ _ rv0), r1.l, g3, fun u F2 H2 al ra => ?_⟩
      have R2 := R1.alloc al
      have ra : Rp F2 u d := ra
      obtain ⟨a2, hv2, I2⟩ := R2.obj g4
      rw [hv] at hv2
      cases hv2
      obtain ⟨dx2, fs2, s12, s22, h12, h22, r2⟩ := I2.ex
      exact ⟨dx2, fs2, h12, by rw [r2.len]; exact hlt, k F2 _ ow1 _ (R2.objPut g4 hv s12 s22 h12 h22 r2 ra) (gr1.f.tr al.f)⟩
    · cases ee
  · cases ee⟩
end
/-! ### methods, makers, properties -/
section
variable {X : Cx} {CX : CXT} {k n : Nat} {g C pr : Addr} {fd : FuncData} {ps ks : List Str} {sp : Sp} {E : XK} {x m : Str} {p pos apos : Pos} {e o : Expr} {es : List Expr} {kws : List Keyword} {t tk : TA} {ta : TE} {gg : List Value → List Value → List Value} {gV : List V → List V → List V}
def tMe (C : Addr) (m : Str) (ta : TE) (t : TA) (sp : Sp) (E : XK) : TE := fun σ H Q => ta σ H fun y H1 => ∃ a dx fs, y = .ref a ∧ H1 a = some (.ins C dx fs) ∧ fs.lookup m = none ∧ t σ H1 fun vs H2 => sp (y :: vs) H2 Q E
theorem peMe {pl : Sem Bool} (ho : PE X o ta) (c : Cls X.K C) (hm : Meth X.K C m g) (F : FnG X.prog X.w X.K X.mg X.base CX k g fd ps sp) (nr : NoRep X.A) (room : Room k X.A) (hb : Binds X.K fd ps []) (esc : Passes CX X E) (ha : PA X (e :: es) t)
    (he : starEach (e :: es) X.env = (false, eval e X.env) :: starEach es X.env) (hpl : (backTo pos (starEach es X.env)).any (·.1) = false)
    (ht : eval (.Call (.Attribute o m apos) (e :: es) [] pos) X.env = (do
      let ov ← eval o X.env
      standAt apos.atName
      let (f, first) ← holding [ov] (getMethod ov m pl)
      callWith pos f first (backTo pos (starEach (e :: es) X.env)) (backToKw pos (keywordEach [] X.env)))) : PE X (.Call (.Attribute o m apos) (e :: es) [] pos) (tMe C m ta t sp E) := by
  refine ⟨fun pins s σ H Q inv want => PySem.W.methodCall_KW (pl := pl) (thn (ho.run pins s σ H _ inv want) fun u s1 ⟨y, H1, i1, ry, a, dx, fs, ey, at_, l, q⟩ => ?_) ht⟩
  subst ey
  cases (show u = Value.ref a from ry)
  refine getmeth_ok i1 at_ c hm l (PySem.W.callWith_K (first := [.ref a]) (h₀ := X.base) i1.ok.mod.kin hm.kp (thn (ha.run pos pins s1 σ H1 _ i1 q) fun us s2 ⟨vs, H2, i2, rv, q2⟩ => ⟨i2.kIn, ?_⟩) he hpl)
  have rv2 : Vals (V.ref a :: vs) (Value.ref a :: us) := .cons rfl rv
  exact run_G (us := .ref a :: us) F nr room esc i2 (binds_all hb i2 (rv2.length.symm.trans (F.cnt _ _ _ _ q2))) rv2 q2
theorem peMe0 {pl : Sem Bool} (ho : PE X o ta) (c : Cls X.K C) (hm : Meth X.K C m g) (F : FnG X.prog X.w X.K X.mg X.base CX k g fd ps sp) (nr : NoRep X.A) (room : Room k X.A) (hb : Binds X.K fd ps []) (esc : Passes CX X E)
    (ht : eval (.Call (.Attribute o m apos) [] [] pos) X.env = (do
      let ov ← eval o X.env
      standAt apos.atName
      let (f, first) ← holding [ov] (getMethod ov m pl)
      callWith pos f first (backTo pos (starEach [] X.env)) (backToKw pos (keywordEach [] X.env)))) : PE X (.Call (.Attribute o m apos) [] [] pos) (tMe C m ta tNil sp E) := by
  refine ⟨fun pins s σ H Q inv want => PySem.W.methodCall_KW (pl := pl) (thn (ho.run pins s σ H _ inv want) fun u s1 ⟨y, H1, i1, ry, a, dx, fs, ey, at_, l, q⟩ => ?_) ht⟩
  subst ey
  cases (show u = Value.ref a from ry)
  have rv2 : Vals [V.ref a] [Value.ref a] := .cons rfl .nil
  exact getmeth_ok i1 at_ c hm l (PySem.W.callWith_K0 (first := [.ref a]) i1.kIn hm.kp (run_G (us := [.ref a]) F nr room esc i1 (binds_all hb i1 (rv2.length.symm.trans (F.cnt _ _ _ _ q))) rv2 q))
theorem peMeN {pl : Sem Bool} (ho : PE X o ta) (c : Cls X.K C) (hm : Meth X.K C m g) (F : FnG X.prog X.w X.K X.mg X.base CX k g fd ps sp) (nr : NoRep X.A) (room : Room k X.A) (hb : KBn X.K fd ps 1 ks gg gV) (esc : Passes CX X E) (hkw : PK X kws tk)
    (hall : (backToKw pos (keywordEach kws X.env)).all (·.1.isSome) = true) (hks : (backToKw pos (keywordEach kws X.env)).filterMap (·.1) = ks) (hpl : ((backTo pos (starEach [] X.env)).any (·.1) || (backToKw pos (keywordEach kws X.env)).any (·.1.isNone)) = false)
    (ht : eval (.Call (.Attribute o m apos) [] kws pos) X.env = (do
      let ov ← eval o X.env
      standAt apos.atName
      let (f, first) ← holding [ov] (getMethod ov m pl)
      callWith pos f first (backTo pos (starEach [] X.env)) (backToKw pos (keywordEach kws X.env)))) :
    PE X (.Call (.Attribute o m apos) [] kws pos) (fun σ H Q => ta σ H fun y H1 => ∃ a dx fs, y = .ref a ∧ H1 a = some (.ins C dx fs) ∧ fs.lookup m = none ∧ tk σ H1 fun zs H2 => zs.length = ks.length ∧ sp (gV [y] zs) H2 Q E) := by
  refine ⟨fun pins s σ H Q inv want => PySem.W.methodCall_KW (pl := pl) (thn (ho.run pins s σ H _ inv want) fun u s1 ⟨y, H1, i1, ry, a, dx, fs, ey, at_, l, q⟩ => ?_) ht⟩
  subst ey
  cases (show u = Value.ref a from ry)
  refine getmeth_ok i1 at_ c hm l (PySem.W.callWith_KW0 (first := [.ref a]) (h₀ := X.base) i1.ok.mod.kin hm.kp hall (thn (hkw.run pos pins s1 σ H1 _ i1 q) fun ws s2 ⟨zs, H2, i2, rz, l2, q2⟩ => ⟨i2.kIn, ?_⟩) hpl)
  subst hks
  have rv2 : Vals [V.ref a] [Value.ref a] := .cons rfl .nil
  exact run_G (us := [.ref a]) F nr room esc i2 (hb.to s2 [.ref a] ws i2.kIn rfl (rz.length.symm.trans l2)) (hb.rel rv2 rz) q2
/-- a new one -/
theorem runMk {pins : List (Addr × Obj)} {σ : L2.St} {H : Hp} {s : Shared} {Q : VK} {us ws : List Value} {vs zs : List V} (M : Mk X.K C g) (F : FnG X.prog X.w X.K X.mg X.base CX k g fd ps sp) (nr : NoRep X.A) (room : Room (k + 1) X.A) (hb : KBn X.K fd ps (n + 1) ks gg gV) (esc : Passes CX X E) (inv : Inv X pins σ H s)
    (rv : Vals vs us) (rz : Vals zs ws) (l1 : vs.length = n) (l2 : zs.length = ks.length)
    (want : ∀ y dx, H y = none → H dx = none → dx ≠ y → sp (gV (.ref y :: vs) zs) (upd (upd H dx (.own y)) y (.ins C dx [])) (fun v H2 => v = .non ∧ Q (.ref y) H2) E) :
    wpAny (model X.prog X.w) X.A (PySem.call (.ref C) us (ks.zip ws)) (EP X pins σ Q) X.xe s := by
  have wq := want (s.heap.objs.size + 1) s.heap.objs.size (inv.hok.fresh (Nat.le_succ _)) (inv.hok.fresh (Nat.le_refl _)) (Nat.ne_of_lt (Nat.lt_succ_self _))
  have i2 := Inv.made (C := C) inv
  have rv1 : Vals (V.ref (s.heap.objs.size + 1) :: vs) (Value.ref (s.heap.objs.size + 1) :: us) := .cons rfl rv
  have m1 : (Value.ref (s.heap.objs.size + 1) :: us).length = n + 1 := rv1.length.symm.trans (congrArg Nat.succ l1)
  refine wpAny_call (make_map (f := g) inv.kIn M.makes M.init (beq_iff_eq.mp M.fn) (codeAny_mono (F.go _ X.stack _ _ ⟨Value.ref (s.heap.objs.size + 1) :: us, ks.zip ws⟩ (gg (Value.ref (s.heap.objs.size + 1) :: us) ws) _ _ E nr (room.make C us (ks.zip ws))
    (i2.env0.make C us (ks.zip ws)) (hb.to _ (Value.ref (s.heap.objs.size + 1) :: us) ws i2.kIn m1 (rz.length.symm.trans l2)) (hb.rel rv1 rz) wq) fun r s2 h2 => ?_))
  rcases r with er | (v2 | _ | _ | _)
  · exact esc pins σ _ _ er s2 i2 h2
  all_goals first
    | exact h2.elim
    | (obtain ⟨v, H3, i3, r3, ev, q3⟩ := i2.after h2
       subst ev
       exact ⟨r3, ⟨V.ref (s.heap.objs.size + 1), H3, i3, rfl, q3⟩⟩)
theorem peMk (M : Mk X.K C g) (F : FnG X.prog X.w X.K X.mg X.base CX k g fd ps sp) (nr : NoRep X.A) (room : Room (k + 1) X.A) (gl : Gl X x) (at_ : X.mg x = some (.ref C)) (hb : KBn X.K fd ps (n + 1) [] gg gV) (esc : Passes CX X E) (ha : PA X (e :: es) t)
    (hdb : (x == ("__debug__" : Str)) = false) (he : starEach (e :: es) X.env = (false, eval e X.env) :: starEach es X.env) (hpl : (backTo pos (starEach es X.env)).any (·.1) = false) :
    PE X (.Call (.Name x p) (e :: es) [] pos) (fun σ H Q => t σ H fun vs H1 => vs.length = n ∧ ∀ y dx, H1 y = none → H1 dx = none → dx ≠ y → sp (gV (.ref y :: vs) []) (upd (upd H1 dx (.own y)) y (.ins C dx [])) (fun v H2 => v = .non ∧ Q (.ref y) H2) E) :=
  ⟨fun pins s σ H Q inv want => wpAny_Call_Name_kw (ld_glob inv gl at_ (PySem.W.callWith_K (h₀ := X.base) inv.ok.mod.kin M.kp (thn (ha.run pos pins s σ H _ inv want) fun us s1 ⟨vs, H1, i1, rv, l1, q⟩ =>
    ⟨i1.kIn, runMk (ks := []) (ws := []) M F nr room hb esc i1 rv .nil l1 rfl q⟩) he hpl) hdb)⟩
theorem peMkN (M : Mk X.K C g) (F : FnG X.prog X.w X.K X.mg X.base CX k g fd ps sp) (nr : NoRep X.A) (room : Room (k + 1) X.A) (gl : Gl X x) (at_ : X.mg x = some (.ref C)) (hb : KBn X.K fd ps (0 + 1) ks gg gV) (esc : Passes CX X E) (hkw : PK X kws tk)
    (hall : (backToKw pos (keywordEach kws X.env)).all (·.1.isSome) = true) (hks : (backToKw pos (keywordEach kws X.env)).filterMap (·.1) = ks)
    (hdb : (x == ("__debug__" : Str)) = false) (hpl : ((backTo pos (starEach [] X.env)).any (·.1) || (backToKw pos (keywordEach kws X.env)).any (·.1.isNone)) = false) :
    PE X (.Call (.Name x p) [] kws pos) (fun σ H Q => tk σ H fun zs H1 => zs.length = ks.length ∧ ∀ y dx, H1 y = none → H1 dx = none → dx ≠ y → sp (gV [.ref y] zs) (upd (upd H1 dx (.own y)) y (.ins C dx [])) (fun v H2 => v = .non ∧ Q (.ref y) H2) E) := by
  refine ⟨fun pins s σ H Q inv want => wpAny_Call_Name_kw (ld_glob inv gl at_ ?_ hdb)⟩
  refine PySem.W.callWith_KW0 (h₀ := X.base) inv.ok.mod.kin M.kp hall (thn (hkw.run pos pins s σ H _ inv want) fun ws s1 ⟨zs, H1, i1, rz, l2, q⟩ => ⟨i1.kIn, ?_⟩) hpl
  subst hks
  exact runMk (us := []) (vs := []) M F nr room hb esc i1 .nil rz rfl l2 q
/-- a property -/
theorem pePr (ho : PE X o ta) (c : Cls X.K C) (hp : PropOf X.K C m pr g) (F : FnG X.prog X.w X.K X.mg X.base CX k g fd ps sp) (nr : NoRep X.A) (room : Room (k + 1) X.A) (hb : Binds X.K fd ps []) (esc : Passes CX X.nox E)
    (hab : attributeBase o m X.env (eval o X.env) = eval o X.env) : PE X (.Attribute o m pos) (fun σ H Q => ta σ H fun y H1 => ∃ a dx fs, y = .ref a ∧ H1 a = some (.ins C dx fs) ∧ sp [y] H1 Q E) := by
  refine ⟨fun pins s σ H Q inv want => attr_of hab (thn (ho.run pins s σ H _ inv want) fun u s1 ⟨y, H1, i1, ry, a, dx, fs, ey, at_, q⟩ => ?_)⟩
  subst ey
  cases (show u = Value.ref a from ry)
  obtain ⟨mA, O, _, _, _, _⟩ := ins_get i1.hok at_
  obtain ⟨od, J, _⟩ := O.look
  obtain ⟨rest, hrec⟩ := hp.rec_
  have i2 := i1.tok (s1.toks + 1)
  have rv2 : Vals [V.ref a] [Value.ref a] := .cons rfl .nil
  have hc : (PySem.W.clsIn X.K C).isSome = true := by
    obtain ⟨cd, hc, _⟩ := PySem.W.any_some c.hd
    rw [hc]; rfl
  refine PySem.W.get_bind i1.kIn J (PySem.W.plainGet_of (c.get m)).1 (PySem.W.findObj_data hc hp.at_ hp.get hp.tak) (PySem.W.plainGet_of (c.get m)).2 (wpAny_call (PySem.W.prop_get (s := { s1 with toks := s1.toks + 1 }) i1.kIn hrec ?_))
  refine codeAny_mono (F.go X.A.in1 X.stack { s1 with toks := s1.toks + 1 } H1 ⟨[.ref a], []⟩ [.ref a] [.ref a] Q E nr room.in1 i2.env0.in1 (binds_all hb i2 (rv2.length.symm.trans (F.cnt _ _ _ _ q))) rv2 q) fun r s2 h2 => ?_
  rcases r with er | (v2 | _ | _ | _)
  · exact False.elim (esc pins σ H1 { s1 with toks := s1.toks + 1 } er s2 (i2.wish _) h2)
  all_goals first
    | exact h2.elim
    | (obtain ⟨v, H3, i3, r3, q3⟩ := i2.after h2
       show wpAny _ _ (handedOut _) _ _ _
       rw [PySem.W.handedOut_of (handed_of r3)]
       exact wpAny_pure ⟨v, H3, i3, r3, q3⟩)
end
end IX

/-! text IX52 -/
set_option maxHeartbeats 1000000
/-! Methods, makers and properties of instances as values: over a name, over an instance that no name holds. -/
namespace IX
open PySem PySem.Spec PyProof.Rows L2
variable [KC]
structure MeG (P : Program) (w : World) (mg : Str → Option Value) (base : Heap) (k : Nat) (C m qual : Str) (params : Arguments) (body : List Stmt) (scope : Scope) (ps : List Str) (f : FSem) : Prop where
  ex : ∃ (fA : Addr) (fd : FuncData), FnG P w KC.K mg base CX0 k fA fd ps (spI E0 f ps.length) ∧ Meth KC.K (He.ga KC.K C) m fA ∧ FunD KC.K m qual params body scope [] [] fA fd
  bd : ∀ (kV doc pm : Value) (an : Option Addr) (cdv ct : Value) (us : List Value), us.length = ps.length → bindArgs (PySem.W.fnOf m qual params body scope .none kV doc pm an cdv ct) ⟨us, []⟩ = pure (ps.zip us)
structure PrG (P : Program) (w : World) (mg : Str → Option Value) (base : Heap) (k : Nat) (C m qual : Str) (params : Arguments) (body : List Stmt) (scope : Scope) (ps : List Str) (f : FSem) : Prop where
  ex : ∃ (fA pr : Addr) (fd : FuncData), FnG P w KC.K mg base CX0 k fA fd ps (spI E0 f ps.length) ∧ PropOf KC.K (He.ga KC.K C) m pr fA ∧ FunD KC.K m qual params body scope [] [] fA fd
  bd : ∀ (kV doc pm : Value) (an : Option Addr) (cdv ct : Value) (us : List Value), us.length = ps.length → bindArgs (PySem.W.fnOf m qual params body scope .none kV doc pm an cdv ct) ⟨us, []⟩ = pure (ps.zip us)
structure MkG (P : Program) (w : World) (mg : Str → Option Value) (base : Heap) (k : Nat) (C qual : Str) (params : Arguments) (body : List Stmt) (scope : Scope) (ps : List Str) (f : FSem) : Prop where
  ex : ∃ (fA : Addr) (fd : FuncData), FnG P w KC.K mg base CX0 k fA fd ps (spI E0 f ps.length) ∧ Mk KC.K (He.ga KC.K C) fA ∧ FunD KC.K "__init__" qual params body scope [] [] fA fd
  bd : ∀ (kV doc pm : Value) (an : Option Addr) (cdv ct : Value) (us : List Value), us.length = ps.length → bindArgs (PySem.W.fnOf "__init__" qual params body scope .none kV doc pm an cdv ct) ⟨us, []⟩ = pure (ps.zip us)
  at_ : mg C = some (.ref (He.ga KC.K C))
def evMe (C m : Str) (f : FSem) (i : Nat) (a : EvR) : EvE := fun env => (objAt C env i).bind fun q => match getE q.2 m with
  | none => evCall f (arR i a) env
  | some _ => none
def evMeK (C m : Str) (f : FSem) (is : List Nat) (i : Nat) (a : EvR) : EvE := fun env => (objAt C env i).bind fun q => match getE q.2 m with
  | none => evCallK f is (arR i arN) a env
  | some _ => none
def evPr (C : Str) (f : FSem) (i : Nat) : EvE := fun env => (objAt C env i).bind fun _ => evCall f (arR i arN) env
def evCallT (f : FSem) (o : EvE) (a : EvR) : EvE := fun env => (o env).bind fun p => (a p.2).bind fun q => (tmpRun f p.1 q.1 q.2).map fun z => (z.1, z.2.2)
def evMeT (C m : Str) (f : FSem) (o : EvE) (a : EvR) : EvE := fun env => (o env).bind fun p => (objOf C p.1).bind fun es => match getE es m with
  | none => (a p.2).bind fun q => (tmpRun f p.1 q.1 q.2).map fun z => (z.1, z.2.2)
  | some _ => none
def evPrT (C : Str) (f : FSem) (o : EvE) : EvE := fun env => (o env).bind fun p => (objOf C p.1).bind fun _ => (tmpRun f p.1 [] p.2).map fun z => (z.1, z.2.2)
def isNoneS : Slot → Bool
  | .pur .none => true
  | _ => false
theorem isNoneS_eq {s : Slot} (h : isNoneS s = true) : s = .pur .none := by
  unfold isNoneS at h
  split at h
  · rfl
  · cases h
def evNew (C : Str) (f : FSem) (a : EvR) : EvE := fun env => (a env).bind fun q => (tmpRun f (.ext false 6 (objS C [])) q.1 q.2).bind fun z => if isNoneS z.1 = true then some (z.2.1, z.2.2) else none
section
variable {X : Cx} [hx : KX X] {e o : Expr} {es : List Expr} {kws : List Keyword} {p pos apos : Pos} {k j i n : Nat} {x C m qual : Str} {params : Arguments} {body : List Stmt} {scope : Scope} {ps : List Str} {f : FSem} {fl : List Str} {fr : Fra} {σ : L2.St} {H : Hp} {Q : VK} {XE : XK} {q br : Bool} {ev : EvR} {evo : EvE}
theorem keys_none {F : Hp} {fs : List (Str × V)} {es : List (PyData × PyData)} (r : KVs F fs es) (h : getE es m = none) : fs.lookup m = none := r.get.2 h
theorem arR_some {env env' : SEnv} {as : List Arg} (h : arR i ev env = some (as, env')) : ∃ s as', env[i]? = some s ∧ s.isObj = true ∧ ev env = some (as', env') ∧ as = .ref i :: as' := by
  unfold arR at h
  split at h
  · rename_i s hs
    split at h
    · rename_i ob
      obtain ⟨⟨as', e2⟩, h6, h7⟩ := Option.map_eq_some_iff.mp h
      cases h7
      exact ⟨s, as', hs, ob, h6, rfl⟩
    · cases h
  · cases h
/-- x.m(..): from the whole's wish to the parts' -/
theorem me_core (hn : ∀ env as env', ev env = some (as, env') → as.length + 1 = n) (h : TQ E0 fr false (evMe C m f i ev) σ H Q) : tMe (He.ga KC.K C) m (tVar i) (TAr E0 fr q ev) (spI E0 f n) XE σ H Q := by
  obtain ⟨F, ow, env, r, env', R, ee, k⟩ := h
  obtain ⟨⟨b, es⟩, h0, ee⟩ := bind2 ee
  dsimp only at ee
  split at ee
  · rename_i hm
    obtain ⟨as, e1, ss, outs, h1, h2, h3, h4, h5⟩ := evCall_some ee
    obtain ⟨s0, as', hs, ob, h6, rfl⟩ := arR_some h1
    obtain ⟨a, hv, I⟩ := R.obj h0
    obtain ⟨dx, fs, s1, s2, g1, g2, r⟩ := I.ex
    refine ⟨_, hv, a, dx, fs, rfl, g1, keys_none r hm, F, ow, env, as', e1, R, h6, fun vs F' H' ow' R' g hq aok => ?_⟩
    exact call_core (br := true) (q := q) R' g hq (.ref hv aok) (by rw [List.length_cons]; exact hn _ _ _ h6) h2 h3 h4 h5 (fun z => nomatch z) (fun v F2 H2 ow2 R2 g2 q2 r2 => k v F2 H2 ow2 R2 g2 (fun z => nomatch z) r2)
  · cases ee
/-- .. over an instance of nobody's -/
theorem meT_core {qo : Bool} (hn : ∀ env as env', ev env = some (as, env') → as.length + 1 = n) (h : TQ E0 fr false (evMeT C m f evo ev) σ H Q) : tMe (He.ga KC.K C) m (TQ E0 fr qo evo) (TAr E0 fr q ev) (spI E0 f n) XE σ H Q := by
  obtain ⟨F, ow, env, r, env', R, ee, k⟩ := h
  obtain ⟨⟨s, e1⟩, h0, ee⟩ := bind2 ee
  obtain ⟨es, h1, ee⟩ := bind2 ee
  dsimp only at ee
  split at ee
  · rename_i hm
    obtain ⟨⟨as, e2⟩, h2, ee⟩ := bind2 ee
    obtain ⟨⟨r1, o1, e3⟩, h3, ee⟩ := Option.map_eq_some_iff.mp ee
    cases ee
    obtain ⟨b, rfl⟩ := objOf_some h1
    refine ⟨F, ow, env, _, e1, R, h0, fun v F1 H1 ow1 R1 g1 _ rs => ?_⟩
    obtain ⟨_, _, S, _, hs⟩ := id rs
    obtain ⟨a, rfl, I⟩ := Sl.obj hs
    obtain ⟨dx, fs, s1, s2, q1, q2, rr⟩ := I.ex
    refine ⟨a, dx, fs, rfl, q1, keys_none rr hm, F1, ow1, e1, as, e2, R1, h2, fun vs F2 H2 ow2 R2 g2 hq aok => ?_⟩
    exact tmp_core R2 (g1.tr g2) (rs.mono g2) aok (hn _ _ _ h2) h3 fun u F3 H3 ow3 R3 g3 ru _ => k u F3 H3 ow3 R3 g3 (fun z => nomatch z) ru
  · cases ee
theorem new_core (hn : ∀ env as env', ev env = some (as, env') → as.length + 1 = n) (h : TQ E0 fr false (evNew C f ev) σ H Q) :
    TAr E0 fr q ev σ H fun vs H1 => vs.length + 1 = n ∧ ∀ y dx, H1 y = none → H1 dx = none → dx ≠ y → spI E0 f n (.ref y :: vs) (upd (upd H1 dx (.own y)) y (.ins (He.ga KC.K C) dx [])) (fun v H2 => v = .non ∧ Q (.ref y) H2) XE := by
  obtain ⟨F, ow, env, r, env', R, ee, k⟩ := h
  obtain ⟨⟨as, e1⟩, h0, ee⟩ := bind2 ee
  obtain ⟨⟨r1, o1, e2⟩, h1, ee⟩ := bind2 ee
  have ee : (if isNoneS r1 = true then some (o1, e2) else none) = some (r, env') := ee
  split at ee
  · rename_i hN
    cases ee
    cases isNoneS_eq hN
    refine ⟨F, ow, env, as, e1, R, h0, fun vs F' H' ow' R' g hq aok => ⟨by rw [aok.get.1]; exact hn _ _ _ h0, fun y dx ny ndx ne => ?_⟩⟩
    let H3 : Hp := upd (upd H' dx (.own y)) y (.ins (He.ga KC.K C) dx [])
    have hy : H3 y = some (.ins (He.ga KC.K C) dx []) := upd_same
    have hd : H3 dx = some (.own y) := by show upd _ _ _ _ = _; rw [upd_ne ne, upd_same]
    have ex : Ex H' H3 := fun a u ha => by
      have n1 : a ≠ y := fun z => by subst z; rw [ny] at ha; cases ha
      have n2 : a ≠ dx := fun z => by subst z; rw [ndx] at ha; cases ha
      show upd _ _ _ _ = _
      rw [upd_ne n1, upd_ne n2]; exact ha
    have al : Alloc F' H' F' H3 := ⟨Ex.refl _, ex, R'.fh.tr ex, fun _ _ => rfl⟩
    have rs : Res E0 fr H ow F' H3 ow' (.ref y) (.ext false 6 (objS C [])) := by
      refine ⟨rfl, (fun z => nomatch z), fun a => a = y ∨ a = dx, fun a ha => ?_, .inr (.inr (.inr (.inr (.inr (.inl ⟨y, C, [], rfl, rfl, rfl, ⟨dx, [], .inl rfl, .inr rfl, hy, hd, .nil⟩⟩)))))⟩
      have nn : H' a = none := by rcases ha with rfl | rfl <;> assumption
      refine ⟨R'.free nn, R'.fh.non nn, R'.bh.non nn, ?_, fun h _ => g.dom a h nn⟩
      rcases ha with rfl | rfl
      · rw [hy]; exact fun z => nomatch z
      · rw [hd]; exact fun z => nomatch z
    refine tmp_core (R'.alloc al) (g.tr (al.grow R')) rs aok (hn _ _ _ h0) h1 fun u F3 H4 ow3 R3 g3 ru ro => ⟨?_, k _ F3 H4 ow3 R3 g3 (fun z => nomatch z) ro⟩
    obtain ⟨_, _, S, _, hs⟩ := ru
    cases hs
    rfl
  · cases ee
theorem MeG.up (M : MeG X.prog X.w X.mg X.base k C m qual params body scope ps f) : ∃ (fA : Addr) (fd : FuncData), FnG X.prog X.w X.K X.mg X.base CX0 k fA fd ps (spI E0 f ps.length) ∧ Meth X.K (He.ga KC.K C) m fA ∧ FunD X.K m qual params body scope [] [] fA fd := by
  obtain ⟨fA, fd, h⟩ := M.ex
  refine ⟨fA, fd, ?_⟩
  rw [hx.eq]; exact h
theorem PrG.up (M : PrG X.prog X.w X.mg X.base k C m qual params body scope ps f) : ∃ (fA pr : Addr) (fd : FuncData), FnG X.prog X.w X.K X.mg X.base CX0 k fA fd ps (spI E0 f ps.length) ∧ PropOf X.K (He.ga KC.K C) m pr fA ∧ FunD X.K m qual params body scope [] [] fA fd := by
  obtain ⟨fA, pr, fd, h⟩ := M.ex
  refine ⟨fA, pr, fd, ?_⟩
  rw [hx.eq]; exact h
theorem MkG.up (M : MkG X.prog X.w X.mg X.base k C qual params body scope ps f) : ∃ (fA : Addr) (fd : FuncData), FnG X.prog X.w X.K X.mg X.base CX0 k fA fd ps (spI E0 f ps.length) ∧ Mk X.K (He.ga KC.K C) fA ∧ FunD X.K "__init__" qual params body scope [] [] fA fd := by
  obtain ⟨fA, fd, h⟩ := M.ex
  refine ⟨fA, fd, ?_⟩
  rw [hx.eq]; exact h
theorem tnil_tar {X : L2.St} {H : Hp} {Q : List V → Hp → Prop} {q : Bool} (h : TAr E0 fr q arN X H Q) : tNil X H Q := by
  obtain ⟨F, ow, env, as, env', R, ee, k⟩ := h
  cases ee
  exact k [] F H ow R Grow.refl (fun _ => Ex.refl _) .nil
/-! the rules -/
theorem se_me {pl : Sem Bool} (T : ClsT C fl) (M : MeG X.prog X.w X.mg X.base k C m qual params body scope ps f) (nr : NoRep X.A) (hr : Room j X.A) (hk : k ≤ j) (h : PE X (.Name x p) (tVar i)) (ha : SAr E0 X (e :: es) q br ev) (hn : ∀ env as env', ev env = some (as, env') → as.length + 1 = ps.length)
    (he : starEach (e :: es) X.env = (false, eval e X.env) :: starEach es X.env := by rfl) (hpl : (backTo pos (starEach es X.env)).any (·.1) = false := by rfl)
    (ht : eval (.Call (.Attribute (.Name x p) m apos) (e :: es) [] pos) X.env = (do
      let ov ← eval (.Name x p) X.env
      standAt apos.atName
      let (f, first) ← holding [ov] (getMethod ov m pl)
      callWith pos f first (backTo pos (starEach (e :: es) X.env)) (backToKw pos (keywordEach [] X.env))) := by rfl) :
    SE E0 X (.Call (.Attribute (.Name x p) m apos) (e :: es) [] pos) false (evMe C m f i ev) := ⟨fun fr => by
  obtain ⟨fA, fd, F1, hM, FD⟩ := M.up
  exact (peMe (E := L2.E0) h T.c hM (F1.mono hk) nr hr (FD.bindsN M.bd) pass0 (ha.pa fr) he hpl ht).weak fun σ H Q z => me_core hn z⟩
theorem se_me0 {pl : Sem Bool} (T : ClsT C fl) (M : MeG X.prog X.w X.mg X.base k C m qual params body scope ps f) (nr : NoRep X.A) (hr : Room j X.A) (hk : k ≤ j) (h : PE X (.Name x p) (tVar i)) (hn : 1 = ps.length := by rfl)
    (ht : eval (.Call (.Attribute (.Name x p) m apos) [] [] pos) X.env = (do
      let ov ← eval (.Name x p) X.env
      standAt apos.atName
      let (f, first) ← holding [ov] (getMethod ov m pl)
      callWith pos f first (backTo pos (starEach [] X.env)) (backToKw pos (keywordEach [] X.env))) := by rfl) :
    SE E0 X (.Call (.Attribute (.Name x p) m apos) [] [] pos) false (evMe C m f i arN) := ⟨fun fr => by
  obtain ⟨fA, fd, F1, hM, FD⟩ := M.up
  refine (peMe0 (E := L2.E0) h T.c hM (F1.mono hk) nr hr (FD.bindsN M.bd) pass0 ht).weak fun σ H Q z => ?_
  obtain ⟨y, hv, a, dx, fs, e1, e2, e3, k⟩ := me_core (q := true) (XE := L2.E0) (n := ps.length) (fun env as env' z => by cases z; exact hn) z
  exact ⟨y, hv, a, dx, fs, e1, e2, e3, tnil_tar k⟩⟩
theorem se_meT {pl : Sem Bool} {qo : Bool} (T : ClsT C fl) (M : MeG X.prog X.w X.mg X.base k C m qual params body scope ps f) (nr : NoRep X.A) (hr : Room j X.A) (hk : k ≤ j) (h : SE E0 X o qo evo) (ha : SAr E0 X (e :: es) q br ev) (hn : ∀ env as env', ev env = some (as, env') → as.length + 1 = ps.length)
    (he : starEach (e :: es) X.env = (false, eval e X.env) :: starEach es X.env := by rfl) (hpl : (backTo pos (starEach es X.env)).any (·.1) = false := by rfl)
    (ht : eval (.Call (.Attribute o m apos) (e :: es) [] pos) X.env = (do
      let ov ← eval o X.env
      standAt apos.atName
      let (f, first) ← holding [ov] (getMethod ov m pl)
      callWith pos f first (backTo pos (starEach (e :: es) X.env)) (backToKw pos (keywordEach [] X.env))) := by rfl) :
    SE E0 X (.Call (.Attribute o m apos) (e :: es) [] pos) false (evMeT C m f evo ev) := ⟨fun fr => by
  obtain ⟨fA, fd, F1, hM, FD⟩ := M.up
  exact (peMe (E := L2.E0) (h.pe fr) T.c hM (F1.mono hk) nr hr (FD.bindsN M.bd) pass0 (ha.pa fr) he hpl ht).weak fun σ H Q z => meT_core hn z⟩
theorem se_meT0 {pl : Sem Bool} {qo : Bool} (T : ClsT C fl) (M : MeG X.prog X.w X.mg X.base k C m qual params body scope ps f) (nr : NoRep X.A) (hr : Room j X.A) (hk : k ≤ j) (h : SE E0 X o qo evo) (hn : 1 = ps.length := by rfl)
    (ht : eval (.Call (.Attribute o m apos) [] [] pos) X.env = (do
      let ov ← eval o X.env
      standAt apos.atName
      let (f, first) ← holding [ov] (getMethod ov m pl)
      callWith pos f first (backTo pos (starEach [] X.env)) (backToKw pos (keywordEach [] X.env))) := by rfl) :
    SE E0 X (.Call (.Attribute o m apos) [] [] pos) false (evMeT C m f evo arN) := ⟨fun fr => by
  obtain ⟨fA, fd, F1, hM, FD⟩ := M.up
  refine (peMe0 (E := L2.E0) (h.pe fr) T.c hM (F1.mono hk) nr hr (FD.bindsN M.bd) pass0 ht).weak fun σ H Q z => ?_
  obtain ⟨F, ow, env, d, env', R, ee, kk⟩ := meT_core (qo := qo) (q := true) (XE := L2.E0) (n := ps.length) (fun env as env' z => by cases z; exact hn) z
  exact ⟨F, ow, env, d, env', R, ee, fun v F' H' ow' R' g hq rs => by
    obtain ⟨a, dx, fs, e1, e2, e3, k⟩ := kk v F' H' ow' R' g hq rs
    exact ⟨a, dx, fs, e1, e2, e3, tnil_tar k⟩⟩⟩
/-- x.m(k = ..) -/
theorem se_meK {pl : Sem Bool} {ks : List Str} {is : List Nat} (T : ClsT C fl) (M : MeG X.prog X.w X.mg X.base k C m qual params body scope ps f) (nr : NoRep X.A) (hr : Room j X.A) (hk : k ≤ j) (h : PE X (.Name x p) (tVar i)) (hkw : SKr E0 X kws q br ev)
    (hlk : ∀ env as env', ev env = some (as, env') → as.length = ks.length) (hi : is.all (fun i => decide (i < 1 + ks.length)) = true) (hp : is.length = ps.length)
    (hb : ∀ (kV doc pm : Value) (an : Option Addr) (cdv ct : Value) (us ws : List Value), us.length = 1 → ws.length = ks.length → bindArgs (PySem.W.fnOf m qual params body scope .none kV doc pm an cdv ct) ⟨us, ks.zip ws⟩ = pure (ps.zip (pick (us ++ ws) is)))
    (hall : (backToKw pos (keywordEach kws X.env)).all (·.1.isSome) = true := by rfl) (hks : (backToKw pos (keywordEach kws X.env)).filterMap (·.1) = ks := by rfl) (hpl : ((backTo pos (starEach [] X.env)).any (·.1) || (backToKw pos (keywordEach kws X.env)).any (·.1.isNone)) = false := by rfl)
    (ht : eval (.Call (.Attribute (.Name x p) m apos) [] kws pos) X.env = (do
      let ov ← eval (.Name x p) X.env
      standAt apos.atName
      let (f, first) ← holding [ov] (getMethod ov m pl)
      callWith pos f first (backTo pos (starEach [] X.env)) (backToKw pos (keywordEach kws X.env))) := by rfl) :
    SE E0 X (.Call (.Attribute (.Name x p) m apos) [] kws pos) false (evMeK C m f is i ev) := ⟨fun fr => by
  obtain ⟨fA, fd, F1, hM, FD⟩ := M.up
  have KB : KBn X.K fd ps 1 ks (fun us ws => pick (us ++ ws) is) (fun us ws => pick (us ++ ws) is) := by
    obtain ⟨oc, od, dV, kV, doc, pm, an, cdv, ct, osl, rfl, lk, hcd, hD, hK⟩ := FD.ex
    rcases hD with ⟨_, rfl⟩ | ⟨e, _⟩
    · exact ⟨fun s us ws _ l1 l2 => .of_eq (hb kV doc pm an cdv ct us ws l1 l2), fun r1 r2 => vals_pick (r1.append r2) is⟩
    · exact absurd rfl e
  refine (peMeN (E := L2.E0) h T.c hM (F1.mono hk) nr hr KB pass0 (hkw.pk fr) hall hks hpl ht).weak fun σ H Q ⟨F, ow, env, r, env', R, ee, k⟩ => ?_
  obtain ⟨⟨b, es⟩, h0, ee⟩ := bind2 ee
  dsimp only at ee
  split at ee
  · rename_i hm
    obtain ⟨as, e1, ss, outs, h1, h2, h3, h4, h5⟩ := evCall_some ee
    obtain ⟨⟨as1, e2⟩, g1, h1⟩ := bind2 h1
    obtain ⟨⟨as2, e3⟩, g2, h1⟩ := Option.map_eq_some_iff.mp h1
    cases h1
    obtain ⟨s0, as', hs, ob, h6, rfl⟩ := arR_some g1
    cases h6
    obtain ⟨a, hv, I⟩ := R.obj h0
    obtain ⟨dx, fs, s1, s2, w1, w2, rr⟩ := I.ex
    refine ⟨_, hv, a, dx, fs, rfl, w1, keys_none rr hm, F, ow, _, as2, e3, R, g2, fun zs F2 H2 ow2 R2 gg hq2 aok2 => ⟨aok2.get.1.trans (hlk _ _ _ g2), ?_⟩⟩
    have al : ArgsOk F2 σ [V.ref a] [Arg.ref i] := .ref hv .nil
    refine call_core (br := true) (q := q) R2 gg hq2 ((al.append aok2).pick is) ?_ h2 h3 h4 h5 (fun z => nomatch z) fun v F2 H2 ow2 R2 g2 q2 r2 => k v F2 H2 ow2 R2 g2 (fun z => nomatch z) r2
    rw [pick_len, hp]
    intro i2 hmem
    have := List.all_eq_true.mp hi i2 hmem
    rw [List.length_append, hlk _ _ _ g2]
    simpa using this
  · cases ee⟩
/-- C(..) -/
theorem se_new (M : MkG X.prog X.w X.mg X.base k C qual params body scope ps f) (nr : NoRep X.A) (hr : Room j X.A) (hk : k + 1 ≤ j) (hg : Gl X C) (ha : SAr E0 X (e :: es) q br ev) (hps : ps.length = n + 1) (hn : ∀ env as env', ev env = some (as, env') → as.length = n)
    (hdb : (C == ("__debug__" : Str)) = false := by decide) (he : starEach (e :: es) X.env = (false, eval e X.env) :: starEach es X.env := by rfl) (hpl : (backTo pos (starEach es X.env)).any (·.1) = false := by rfl) :
    SE E0 X (.Call (.Name C p) (e :: es) [] pos) false (evNew C f ev) := ⟨fun fr => by
  obtain ⟨fA, fd, F1, hM, FD⟩ := M.up
  have KB : KBn X.K fd ps (n + 1) [] (fun us _ => us) (fun vs _ => vs) := by
    obtain ⟨oc, od, dV, kV, doc, pm, an, cdv, ct, osl, rfl, lk, hcd, hD, hK⟩ := FD.ex
    rcases hD with ⟨_, rfl⟩ | ⟨e, _⟩
    · exact ⟨fun s us ws _ l1 l2 => .of_eq (M.bd kV doc pm an cdv ct us (l1.trans hps.symm)), fun r1 r2 => r1⟩
    · exact absurd rfl e
  refine (peMk (E := L2.E0) hM F1 nr (hr.mono hk) hg M.at_ KB pass0 (ha.pa fr) hdb he hpl).weak fun σ H Q z => ?_
  obtain ⟨F, ow, env, as, e1, R, h1, kk⟩ := new_core (q := q) (XE := L2.E0) (n := ps.length) (fun env as env' h => by rw [hn _ _ _ h, hps]) z
  exact ⟨F, ow, env, as, e1, R, h1, fun vs F' H' ow' R' g hq aok => by
    obtain ⟨l, w⟩ := kk vs F' H' ow' R' g hq aok
    exact ⟨by omega, w⟩⟩⟩
/-- C(k = ..) -/
theorem se_newK {ks : List Str} {is : List Nat} (M : MkG X.prog X.w X.mg X.base k C qual params body scope ps f) (nr : NoRep X.A) (hr : Room j X.A) (hk : k + 1 ≤ j) (hg : Gl X C) (hkw : SKr E0 X kws q br ev)
    (hlk : ∀ env as env', ev env = some (as, env') → as.length = ks.length) (hps : ps.length = ks.length + 1)
    (hb : ∀ (kV doc pm : Value) (an : Option Addr) (cdv ct : Value) (us ws : List Value), us.length = 1 → ws.length = ks.length → bindArgs (PySem.W.fnOf "__init__" qual params body scope .none kV doc pm an cdv ct) ⟨us, ks.zip ws⟩ = pure (ps.zip (us ++ ws)))
    (hall : (backToKw pos (keywordEach kws X.env)).all (·.1.isSome) = true := by rfl) (hks : (backToKw pos (keywordEach kws X.env)).filterMap (·.1) = ks := by rfl) (hdb : (C == ("__debug__" : Str)) = false := by decide)
    (hpl : ((backTo pos (starEach [] X.env)).any (·.1) || (backToKw pos (keywordEach kws X.env)).any (·.1.isNone)) = false := by rfl) :
    SE E0 X (.Call (.Name C p) [] kws pos) false (evNew C f ev) := ⟨fun fr => by
  obtain ⟨fA, fd, F1, hM, FD⟩ := M.up
  have KB : KBn X.K fd ps (0 + 1) ks (fun us ws => us ++ ws) (fun us ws => us ++ ws) := by
    obtain ⟨oc, od, dV, kV, doc, pm, an, cdv, ct, osl, rfl, lk, hcd, hD, hK⟩ := FD.ex
    rcases hD with ⟨_, rfl⟩ | ⟨e, _⟩
    · exact ⟨fun s us ws _ l1 l2 => .of_eq (hb kV doc pm an cdv ct us ws l1 l2), fun r1 r2 => r1.append r2⟩
    · exact absurd rfl e
  refine (peMkN (E := L2.E0) hM F1 nr (hr.mono hk) hg M.at_ KB pass0 (hkw.pk fr) hall hks hdb hpl).weak fun σ H Q z => ?_
  obtain ⟨F, ow, env, as, e1, R, h1, kk⟩ := new_core (q := q) (XE := L2.E0) (n := ps.length) (fun env as env' h => by rw [hlk _ _ _ h, hps]) z
  exact ⟨F, ow, env, as, e1, R, h1, fun vs F' H' ow' R' g hq aok => by
    obtain ⟨l, w⟩ := kk vs F' H' ow' R' g hq aok
    exact ⟨by omega, w⟩⟩⟩
/-- x.p, a property -/
theorem se_pr (T : ClsT C fl) (M : PrG X.prog X.w X.mg X.base k C m qual params body scope ps f) (nr : NoRep X.A) (hr : Room j X.A) (hk : k + 1 ≤ j) (h : PE X (.Name x p) (tVar i)) (hn : ps.length = 1 := by rfl)
    (hab : attributeBase (.Name x p) m X.env (eval (.Name x p) X.env) = eval (.Name x p) X.env := by rfl) : SE E0 X (.Attribute (.Name x p) m pos) false (evPr C f i) := ⟨fun fr => by
  obtain ⟨fA, pr, fd, F1, hM, FD⟩ := M.up
  refine (pePr (E := L2.E0) h T.c hM F1 nr (hr.mono hk) (FD.bindsN M.bd) pass0 hab).weak fun σ H Q ⟨F, ow, env, r, env', R, ee, k⟩ => ?_
  obtain ⟨⟨b, es⟩, h0, ee⟩ := bind2 ee
  obtain ⟨as, e1, ss, outs, h1, h2, h3, h4, h5⟩ := evCall_some ee
  obtain ⟨s0, as', hs, ob, h6, rfl⟩ := arR_some h1
  cases h6
  obtain ⟨a, hv, I⟩ := R.obj h0
  obtain ⟨dx, fs, s1, s2, g1, g2, r⟩ := I.ex
  refine ⟨_, hv, a, dx, fs, rfl, g1, ?_⟩
  exact call_core (br := true) (q := false) R Grow.refl (fun z => nomatch z) (.ref hv .nil) hn.symm h2 h3 h4 h5 (fun z => nomatch z) (fun v F2 H2 ow2 R2 g2 q2 r2 => k v F2 H2 ow2 R2 g2 (fun z => nomatch z) r2)⟩
theorem se_prT {qo : Bool} (T : ClsT C fl) (M : PrG X.prog X.w X.mg X.base k C m qual params body scope ps f) (nr : NoRep X.A) (hr : Room j X.A) (hk : k + 1 ≤ j) (h : SE E0 X o qo evo) (hn : ps.length = 1 := by rfl)
    (hab : attributeBase o m X.env (eval o X.env) = eval o X.env := by rfl) : SE E0 X (.Attribute o m pos) false (evPrT C f evo) := ⟨fun fr => by
  obtain ⟨fA, pr, fd, F1, hM, FD⟩ := M.up
  refine (pePr (E := L2.E0) (h.pe fr) T.c hM F1 nr (hr.mono hk) (FD.bindsN M.bd) pass0 hab).weak fun σ H Q ⟨F, ow, env, r, env', R, ee, k⟩ => ?_
  obtain ⟨⟨s, e1⟩, h0, ee⟩ := bind2 ee
  obtain ⟨es, h1, ee⟩ := bind2 ee
  obtain ⟨⟨r1, o1, e3⟩, h3, ee⟩ := Option.map_eq_some_iff.mp ee
  cases ee
  obtain ⟨b, rfl⟩ := objOf_some h1
  refine ⟨F, ow, env, _, e1, R, h0, fun v F1 H1 ow1 R1 g1 _ rs => ?_⟩
  obtain ⟨_, _, S, _, hs⟩ := id rs
  obtain ⟨a, rfl, I⟩ := Sl.obj hs
  obtain ⟨dx, fs, s1, s2, q1, q2, rr⟩ := I.ex
  refine ⟨a, dx, fs, rfl, q1, ?_⟩
  exact tmp_core R1 g1 rs .nil hn.symm h3 fun u F3 H3 ow3 R3 g3 ru _ => k u F3 H3 ow3 R3 g3 (fun z => nomatch z) ru⟩
/-- f(C(..), ..): the first argument an instance of nobody's -/
theorem se_callT {x : Str} {qo : Bool} (F : FnEG E0 X.prog X.w X.K X.mg X.base k x params body scope ps f) (nr : NoRep X.A) (hr : Room j X.A) (hk : k ≤ j) (hg : Gl X x) (h : SE E0 X o qo evo) (ha : SAr E0 X es q br ev) (hn : ∀ env as env', ev env = some (as, env') → as.length + 1 = ps.length)
    (hdb : (x == ("__debug__" : Str)) = false := by decide) (he : starEach (o :: es) X.env = (false, eval o X.env) :: starEach es X.env := by rfl) (hpl : (backTo pos (starEach es X.env)).any (·.1) = false := by rfl) :
    SE E0 X (.Call (.Name x p) (o :: es) [] pos) false (evCallT f evo ev) := ⟨fun fr => by
  obtain ⟨fA, fd, F1, hm, FD⟩ := F.ex
  refine (peG (F1.mono hk) nr hr hg hm FD.kp (FD.bindsN F.bd) pass0 (pa_cons (h.pe fr) (ha.pa fr) he) hdb he hpl).weak fun σ H Q ⟨F, ow, env, r, env', R, ee, k⟩ => ?_
  obtain ⟨⟨s, e1⟩, h0, ee⟩ := bind2 ee
  obtain ⟨⟨as, e2⟩, h2, ee⟩ := bind2 ee
  obtain ⟨⟨r1, o1, e3⟩, h3, ee⟩ := Option.map_eq_some_iff.mp ee
  cases ee
  refine ⟨F, ow, env, _, e1, R, h0, fun v F1 H1 ow1 R1 g1 _ rs => ⟨F1, ow1, e1, as, e2, R1, h2, fun vs F2 H2 ow2 R2 g2 hq aok => ?_⟩⟩
  exact tmp_core R2 (g1.tr g2) (rs.mono g2) aok (hn _ _ _ h2) h3 fun u F3 H3 ow3 R3 g3 ru _ => k u F3 H3 ow3 R3 g3 (fun z => nomatch z) ru⟩
end
end IX

/-! text IX53 -/
set_option maxHeartbeats 1000000
/-! old, new = TABLE[letter]; text = text.replace(old, new): two texts of a module's tuple. -/
namespace IX
open PySem PySem.Spec PyProof.Rows L2
/-- what the names hold, raw -/
structure Raw (X : Cx) (σ : L2.St) (h : Heap) (m : Str → Option Value) : Prop where
  ns : h.Ns X.env.locals m
  lk : ∀ (j : Nat) (y : Str) (v : V), X.N[j]? = some y → σ[j]? = some (some v) → Vis X.env.scope y → ∃ u, RelV v u ∧ Look X.env h m y u
/-- a plain local name is stored: all that is known behind it -/
theorem Raw.put {X : Cx} {pins : List (Addr × Obj)} {σ : L2.St} {H : Hp} {s : Shared} {m : Str → Option Value} {i t : Nat} {x : Str} {v : V} {u : Value} {h2 : Heap} (J : Inv X pins σ H s) (W : Raw X σ s.heap m) (nn : X.N.Nodup) (at_ : X.N[i]? = some x) (loc : X.env.scope.names.lookup x = some .local) (rv : RelV v u)
    (now : h2.Ns X.env.locals fun y => if y = x then some u else m y) (but : Heap.SameBut X.env.locals s.heap h2) :
    Inv X pins (σ.set i (some v)) H { s with heap := h2, toks := t } ∧ Raw X (σ.set i (some v)) h2 (fun y => if y = x then some u else m y) := by
  have li : i < σ.length := by rw [J.len]; exact (List.getElem?_eq_some_iff.mp at_).1
  have cn := J.cne
  have old : ∀ {b o}, X.s_0.heap.get? b = some o → b ≠ X.env.locals := fun e => Nat.ne_of_lt (Nat.lt_of_lt_of_le (Heap.lt_size e) J.ok.above)
  have W2 : Raw X (σ.set i (some v)) h2 (fun y => if y = x then some u else m y) := by
    refine ⟨now, fun j y w e1 e2 e3 => ?_⟩
    by_cases q : j = i
    · subst q
      rw [at_] at e1
      cases e1
      rw [List.getElem?_set_self li] at e2
      cases e2
      exact ⟨u, rv, .inl ⟨loc, by simp⟩⟩
    · rw [List.getElem?_set_ne (Ne.symm q)] at e2
      obtain ⟨w2, r2, z⟩ := W.lk j y w e1 e2 e3
      refine ⟨w2, r2, z.imp (fun ⟨k, e⟩ => ⟨k, ?_⟩) fun ⟨k, c, e, z⟩ => ⟨k, c, e, z.sameBut but (cn y c e)⟩⟩
      have ny : y ≠ x := fun e => q (nodup_ix nn e1 (e ▸ at_))
      simp [ny, e]
  obtain ⟨oL, _, _, hoL, _⟩ := id W.ns
  refine ⟨⟨J.ok, J.os, J.bare, ⟨fun b o e n hb hx => (but.2 b (old e)).trans (J.base.keep b o e n hb hx), fun b o e n hb hx => ?_, J.base.free, fun b o e hx => ?_, J.base.tups, J.base.frzs, J.base.tbls⟩, ⟨_, W2.ns, W2.lk⟩, fun y c e => ?_, J.free, J.freeC, fun p hp => ?_, fun b ob e => ?_, by simpa using J.len⟩, W2⟩
  · obtain ⟨sl, e1⟩ := J.base.slot b o e n hb hx
    exact ⟨sl, (but.2 b (old e)).trans e1⟩
  · obtain ⟨o2, e1⟩ := J.base.there b o e hx
    exact ⟨o2, (but.2 b (old e)).trans e1⟩
  · obtain ⟨w, z⟩ := J.cell y c e
    exact ⟨w, z.sameBut but (cn y c e)⟩
  · obtain ⟨e, n, ne, nf, d⟩ := J.pin p hp
    exact ⟨(but.2 p.1 ne).trans e, n, ne, nf, d⟩
  · refine (J.hok b ob e).stay (fun c w hc q => (but.2 c fun z => ?_).trans q) (fun _ q => q) fun _ _ q => q
    subst z
    rcases hc with rfl | hc
    · rw [J.free] at e; cases e
    · rw [J.free] at hc; cases hc
/-- a table's entries that are pairs of two texts, two objects -/
structure RplT (K : PySem.W.Frag) (mg : Str → Option Value) (w : World) (xd : Str) (tab : List (Str × PyData)) : Prop where
  ex : ∃ a es n, mg xd = some (.ref a) ∧ KDict K w a es n ∧ ∀ c y z, tab.lookup c = some (.tuple [.str y, .str z]) → ∃ (ta : Addr) (o : Obj) (t u : Tok) (n : Nat),
    PySem.W.nsIn K a c = some (some (.ref ta)) ∧ K.lookup ta = some o ∧ o.cls = .type "tuple" ∧ o.data = .seq #[.str y t, .str z u] n ∧ t ≠ 0 ∧ u ≠ 0 ∧ t ≠ u ∧ (y == z) = false
def rplE (K : PySem.W.Frag) (x k : Str) : PyData → Bool
  | .tuple [.str y, .str z] => (match PySem.W.nsIn K (He.ga K x) k with
    | some (some (.ref a)) => (match K.lookup a with
      | some ⟨.type c, _, .seq its _, _⟩ => decide (c = "tuple") && (match its.toList with
        | [.str y2 t, .str z2 u] => decide (y2 = y) && decide (z2 = z) && decide (t ≠ 0) && decide (u ≠ 0) && decide (t ≠ u) && !(y == z)
        | _ => false)
      | _ => false)
    | _ => false)
  | _ => true
def rplB (K : PySem.W.Frag) (x : Str) (tab : List (Str × PyData)) : Bool := tab.all fun p => rplE K x p.1 p.2
theorem rpl_ok {K : PySem.W.Frag} {mg : Str → Option Value} {w : World} {x : Str} {es : Array DictEntry} {n : Nat} {tab : List (Str × PyData)} (hm : mg x = some (.ref (He.ga K x))) (D : KDict K w (He.ga K x) es n) (h : rplB K x tab = true) : RplT K mg w x tab := by
  refine ⟨_, es, n, hm, D, fun c y z hl => ?_⟩
  have h1 : rplE K x c (.tuple [.str y, .str z]) = true := List.all_eq_true.mp h (c, _) (PySem.mem_of_lookup hl)
  unfold rplE at h1
  split at h1
  · rename_i y1 z1 e0
    cases e0
    split at h1
    · rename_i a ha
      split at h1
      · rename_i cl dd its m sl q
        obtain ⟨h2, h3⟩ := Bool.and_eq_true_iff.mp h1
        have e := of_decide_eq_true h2
        subst e
        split at h3
        · rename_i y2 t z2 u e3
          simp only [Bool.and_eq_true, decide_eq_true_eq, Bool.not_eq_true'] at h3
          obtain ⟨⟨⟨⟨⟨e4, e5⟩, e6⟩, e7⟩, e8⟩, e9⟩ := h3
          subst e4 e5
          have ei : its = #[.str y2 t, .str z2 u] := Array.toList_inj.mp (by rw [e3])
          subst ei
          exact ⟨a, _, t, u, m, ha, q, rfl, rfl, e6, e7, e8, e9⟩
        · cases h3
      · cases h1
    · cases h1
  · rename_i hn
    exact (hn y z rfl).elim
section
variable {X : Cx} {xd zl zo zw zt : Str} {tab : List (Str × PyData)} {il io iw it kt : Nat} {p1 p2 p3 p4 p5 p6 p7 p8 p9 p10 p11 p12 p13 p14 : Pos}
/-- D[letter] as an address of the module -/
theorem pe_itRef {ad : Addr} {es : Array DictEntry} {n : Nat} (hg : Gl X xd) (hm : X.mg xd = some (.ref ad)) (D : KDict X.K X.w ad es n) (hl : PE X (.Name zl p5) (tVar il)) (hs : NoSl (.Name zl p5)) (hdb : (xd == ("__debug__" : Str)) = false) :
    PE X (.Subscript (.Name xd p4) (.Name zl p5) p6) (fun σ H Q => ∃ (c : Str) (ta : Addr), σ[il]? = some (some (.str c)) ∧ PySem.W.nsIn X.K ad c = some (some (.ref ta)) ∧ Q (.ref ta) H) := by
  refine ⟨fun pins s σ H Q I ⟨c, ta, hc, hn, q⟩ => ?_⟩
  refine subD_of PySem.F.slot_dict_getitem.lookup hs (thn ((pe_glob (v := .ref ad) hg hm rfl hdb).run pins s σ H _ I (show tC (.ref ad) σ H fun x H1 => x = .ref ad ∧ H1 = H from ⟨rfl, rfl⟩)) fun u s1 ⟨x1, H1, I1, rx, ex, eH⟩ => ?_)
  subst ex eH
  obtain rfl : u = Value.ref ad := rx
  refine thn (hl.run pins s1 σ _ (fun v H' => v = .str c ∧ H' = H1) I1 ⟨_, hc, rfl, rfl⟩) fun iv s2 ⟨y, H2, I2, ry, ey, eh⟩ => ?_
  subst ey eh
  exact ⟨kd_type D I2, op_item_kd D pins s2 σ H2 (.ref ad) (.str c) (.ref ad) iv Q I2 rfl ry ⟨c, _, .ref ta, rfl, rfl, hn, rfl, q⟩⟩
/-- the reading of both rows -/
def tRepl2 (tab : List (Str × PyData)) (il io iw it : Nat) : TS := fun D σ H => ∃ c x y z, σ[il]? = some (some (.str c)) ∧ σ[it]? = some (some (.str x)) ∧ tab.lookup c = some (.tuple [.str y, .str z]) ∧ x.length + (x.length + 1) * z.length ≤ 16777216 ∧
  D.nx (((σ.set io (some (.str y))).set iw (some (.str z))).set it (some (.str (Txt.replace x y z)))) H
theorem raw_local {x : Str} {u : Value} {pos : Pos} {pins : List (Addr × Obj)} {σ : L2.St} {H : Hp} {s : Shared} {m : Str → Option Value} {Q E : Value → Shared → Prop} (J : Inv X pins σ H s) (ns : s.heap.Ns X.env.locals m) (loc : X.env.scope.names.lookup x = some .local) (e : m x = some u) (hd : (x == ("__debug__" : Str)) = false) (q : Q u s) :
    wpAny (model X.prog X.w) X.A (eval (.Name x pos) X.env) Q E s := wpAny_Name (wpAny_loadName_local J.ok.kind loc ns e q) hd
theorem pss_repl2 (hc : X.calm = true) (nn : X.N.Nodup) (T : RplT X.K X.mg X.w xd tab) (hg : Gl X xd) (hl : PE X (.Name zl p5) (tVar il)) (hs : NoSl (.Name zl p5)) (hdb : (xd == ("__debug__" : Str)) = false)
    (no : X.N[io]? = some zo) (lo : X.env.scope.names.lookup zo = some .local) (nw : X.N[iw]? = some zw) (lw : X.env.scope.names.lookup zw = some .local) (nt : X.N[it]? = some zt) (lt : X.env.scope.names.lookup zt = some .local)
    (how : zw ≠ zo) (hto : it ≠ io) (htw : it ≠ iw) (d1 : (zo == ("__debug__" : Str)) = false) (d2 : (zw == ("__debug__" : Str)) = false) (d3 : (zt == ("__debug__" : Str)) = false) (d4 : (zt == ("__classdict__" : Str)) = false)
    (hsw : swapsWithSole [.Tuple [.Name zo p1, .Name zw p2] kt p3] (.Subscript (.Name xd p4) (.Name zl p5) p6) p7.line X.env = pure false) (hw : swappedStores [.Tuple [.Name zo p1, .Name zw p2] kt p3] (.Subscript (.Name xd p4) (.Name zl p5) p6) X.env = pure none)
    (h1 : (assignEach [.Tuple [.Name zo p1, .Name zw p2] kt p3] X.env).map (·.2) = [assign (.Tuple [.Name zo p1, .Name zw p2] kt p3) X.env]) (h2 : (assignEach [.Name zo p1, .Name zw p2] X.env).length = 2) (h3 : (assignEach [.Name zo p1, .Name zw p2] X.env).findIdx? (·.1) = none)
    (h4 : (assignEach [.Name zo p1, .Name zw p2] X.env).map (·.2) = [assign (.Name zo p1) X.env, assign (.Name zw p2) X.env])
    (hst : starEach [.Name zo p11, .Name zw p12] X.env = [(false, eval (.Name zo p11) X.env), (false, eval (.Name zw p12) X.env)])
    (hbase : attributeBase (.Name zt p9) "replace" X.env (eval (.Name zt p9) X.env) = eval (.Name zt p9) X.env) (hline : (p10.endLine == p13.line) = true)
    (hs2 : swapsWith (.Call (.Attribute (.Name zt p9) "replace" p10) [.Name zo p11, .Name zw p12] [] p13) (some (.Name zt p8)) p14.line X.env = pure false) :
    PSs X [.Assign [.Tuple [.Name zo p1, .Name zw p2] kt p3] (.Subscript (.Name xd p4) (.Name zl p5) p6) p7, .Assign [.Name zt p8] (.Call (.Attribute (.Name zt p9) "replace" p10) [.Name zo p11, .Name zw p12] [] p13) p14] (tRepl2 tab il io iw it) := by
  obtain ⟨ad, es, n, hm, D, ent⟩ := T.ex
  refine ⟨fun pins s σ H Dd I ⟨c, x, y, z, hc1, hx, htab, hlen, q⟩ => ?_⟩
  obtain ⟨ta, o, t, u, n2, hn, hlk, hcls, hdat, ht0, hu0, htu, hyz⟩ := ent c y z htab
  refine wpAny_execs_cons (wpAny_Assign_stores (thn ((pe_itRef hg hm D hl hs hdb).run pins s σ H (fun v H' => v = .ref ta ∧ H' = H) I ⟨c, ta, hc1, hn, rfl, rfl⟩) fun v s1 ⟨v0, H1, I1, rv, ev, eH⟩ => ?_) hsw hw)
  subst ev eH
  cases (show v = Value.ref ta from rv)
  rw [h1]
  have isT : IsTup s1.heap ta #[.str y t, .str z u] := ⟨o, I1.kIn _ _ hlk, hcls, n2, hdat⟩
  refine assign_Tuple_tuple (I1.ok.hd hc) isT (by rw [h2]; rfl) h3 fun hh hx1 => ?_
  have I2 : Inv X pins σ H1 { s1 with heap := hh } := I1.kept (t' := s1.toks) fun b ob e => hx1 b ob (Nat.ne_of_lt (Heap.lt_size e)) e
  rw [h4]
  have hcl : (X.env.scope.kind == .class || (X.env.scope.kind == .module && X.env.locals != X.env.globals)) = false := by rw [I2.ok.kind]; rfl
  obtain ⟨m, ns, lk⟩ := id I2.loc
  refine assignInOrder_cons (wpAny_assign_Name (wpAny_storeName_local lo ns (fun h2 now but => ?_) hcl))
  obtain ⟨I3, W3⟩ := Raw.put (t := s1.toks + 1) I2 ⟨ns, lk⟩ nn no lo (v := .str y) (u := .str y t) ⟨t, rfl⟩ now but
  refine assignInOrder_cons (wpAny_assign_Name (wpAny_storeName_local lw W3.ns (fun h3 now2 but2 => ?_) hcl))
  obtain ⟨I4, W4⟩ := Raw.put (t := s1.toks + 1 + 1) I3 W3 nn nw lw (v := .str z) (u := .str z u) ⟨u, rfl⟩ now2 but2
  refine assignInOrder_nil ?_
  refine wpAny_execs_cons (wpAny_Assign_Name (PySem.Call_method2 hbase hst hline ?_) hs2)
  have sx : ((σ.set io (some (.str y))).set iw (some (.str z)))[it]? = some (some (.str x)) := by rw [List.getElem?_set_ne (Ne.symm htw), List.getElem?_set_ne (Ne.symm hto)]; exact hx
  refine raw_name nt (.inl lt) I4 sx (fun w rw_ => ?_) d3 d4
  obtain ⟨tx, rfl⟩ := rw_
  refine ⟨"str", _, F.plainAttrs_str, F.slot_str_replace, F.type_str_replace, typeIs_str _ _ _, (fun _ e => nomatch e), Calls.callWith_builtin rfl (Calls.evalArgs_plain (Calls.spliced_cons ?_))⟩
  refine raw_local (u := .str y t) I4 W4.ns lo (by simp [Ne.symm how]) d1 ?_
  refine Calls.spliced_cons (raw_local (u := .str z u) I4 W4.ns lw (by simp) d2 (Calls.spliced_nil ?_))
  refine PySem.SC.replace ht0 hu0 htu hyz hlen fun t2 k => ?_
  exact store_ok (v := .str (Txt.replace x y z)) (I4.tok k) nn nt (.inl lt) ⟨t2, rfl⟩ (fun s5 I5 => wpAny_execs_nil ⟨_, H1, I5, q⟩) (.inr lt)
end
variable [KC]
def xRepl2 (tab : List (Str × PyData)) (il io iw it : Nat) : EvS := fun env => match env[il]?, env[it]? with
  | some (.pur (.str c)), some (.pur (.str x)) => (match tab.lookup c with
    | some (.tuple [.str y, .str z]) => if x.length + (x.length + 1) * z.length ≤ 16777216 then (stS io (.pur (.str y)) env).bind fun e1 => (stS iw (.pur (.str z)) e1).bind fun e2 => (stS it (.pur (.str (Txt.replace x y z))) e2).map .nxt else none
    | _ => none)
  | _, _ => none
theorem sss_repl2 {E : ExtK} {X : Cx} [KX X] {xd zl zo zw zt : Str} {tab : List (Str × PyData)} {il io iw it kt : Nat} {p1 p2 p3 p4 p5 p6 p7 p8 p9 p10 p11 p12 p13 p14 : Pos} (hc : X.calm = true) (nn : X.N.Nodup) (T : RplT X.K X.mg X.w xd tab) (hg : Gl X xd) (hl : PE X (.Name zl p5) (tVar il))
    (no : X.N[io]? = some zo) (lo : X.env.scope.names.lookup zo = some .local) (nw : X.N[iw]? = some zw) (lw : X.env.scope.names.lookup zw = some .local) (nt : X.N[it]? = some zt) (lt : X.env.scope.names.lookup zt = some .local)
    (hs : NoSl (.Name zl p5) := by exact fun _ _ => rfl) (hdb : (xd == ("__debug__" : Str)) = false := by decide) (how : zw ≠ zo := by decide) (hto : it ≠ io := by decide) (htw : it ≠ iw := by decide) (d1 : (zo == ("__debug__" : Str)) = false := by decide) (d2 : (zw == ("__debug__" : Str)) = false := by decide) (d3 : (zt == ("__debug__" : Str)) = false := by decide) (d4 : (zt == ("__classdict__" : Str)) = false := by decide)
    (hsw : swapsWithSole [.Tuple [.Name zo p1, .Name zw p2] kt p3] (.Subscript (.Name xd p4) (.Name zl p5) p6) p7.line X.env = pure false := by rfl) (hw : swappedStores [.Tuple [.Name zo p1, .Name zw p2] kt p3] (.Subscript (.Name xd p4) (.Name zl p5) p6) X.env = pure none := by rfl)
    (h1 : (assignEach [.Tuple [.Name zo p1, .Name zw p2] kt p3] X.env).map (·.2) = [assign (.Tuple [.Name zo p1, .Name zw p2] kt p3) X.env] := by rfl) (h2 : (assignEach [.Name zo p1, .Name zw p2] X.env).length = 2 := by rfl) (h3 : (assignEach [.Name zo p1, .Name zw p2] X.env).findIdx? (·.1) = none := by rfl)
    (h4 : (assignEach [.Name zo p1, .Name zw p2] X.env).map (·.2) = [assign (.Name zo p1) X.env, assign (.Name zw p2) X.env] := by rfl)
    (hst : starEach [.Name zo p11, .Name zw p12] X.env = [(false, eval (.Name zo p11) X.env), (false, eval (.Name zw p12) X.env)] := by rfl)
    (hbase : attributeBase (.Name zt p9) "replace" X.env (eval (.Name zt p9) X.env) = eval (.Name zt p9) X.env := by rfl) (hline : (p10.endLine == p13.line) = true := by rfl)
    (hs2 : swapsWith (.Call (.Attribute (.Name zt p9) "replace" p10) [.Name zo p11, .Name zw p12] [] p13) (some (.Name zt p8)) p14.line X.env = pure false := by rfl) :
    SSs E X [.Assign [.Tuple [.Name zo p1, .Name zw p2] kt p3] (.Subscript (.Name xd p4) (.Name zl p5) p6) p7, .Assign [.Name zt p8] (.Call (.Attribute (.Name zt p9) "replace" p10) [.Name zo p11, .Name zw p12] [] p13) p14] (xRepl2 tab il io iw it) := ⟨fun fr =>
  (pss_repl2 (tab := tab) hc nn T hg hl hs hdb no lo nw lw nt lt how hto htw d1 d2 d3 d4 hsw hw h1 h2 h3 h4 hst hbase hline hs2).weak fun D σ H ⟨F, ow, env, o, R, ee, k⟩ => by
    have str : ∀ {i : Nat} {c : Str}, env[i]? = some (.pur (.str c)) → σ[i]? = some (some (.str c)) := fun {i c} h => by
      rcases R.sl i _ h with z | ⟨v, h5, h6⟩
      · cases z
      · cases h6; exact h5
    unfold xRepl2 at ee
    split at ee
    · rename_i c x ec ex
      split at ee
      · rename_i y z et
        split at ee
        · rename_i hl
          obtain ⟨e1, g1, ee⟩ := bind2 ee
          obtain ⟨e2, g2, ee⟩ := bind2 ee
          obtain ⟨e3, g3, ee⟩ := Option.map_eq_some_iff.mp ee
          cases ee
          obtain ⟨s1, a1, b1, rfl⟩ := stS_some g1
          obtain ⟨s2, a2, b2, rfl⟩ := stS_some g2
          obtain ⟨s3, a3, b3, rfl⟩ := stS_some g3
          refine ⟨c, x, y, z, str ec, str ex, et, hl, ?_⟩
          exact k F H _ _ (((R.storeP a1 b1 (.str y)).storeP a2 b2 (.str z)).storeP a3 b3 (.str _)) (Ex.refl _)
        · cases ee
      · cases ee
    · cases ee⟩
end IX

/-! text IX54 -/
set_option maxHeartbeats 2000000
/-! The look at the written part, with the getters of properties; x.count(y). -/
namespace IX
open PySem PySem.Spec PyProof.Rows L2
def prA (K : PySem.W.Frag) (C : Addr) (f : Str) : Addr := match PySem.W.findIn K (.ref C) f with
  | some (some (.ref a)) => a
  | _ => 0
def prG (K : PySem.W.Frag) (C : Addr) (f : Str) : Addr := match PySem.W.recIn K (prA K C f) "property" with
  | some (.ref g :: _) => g
  | _ => 0
def prB (K : PySem.W.Frag) (C : Addr) (f : Str) : Bool :=
  decide (PySem.W.findIn K (.ref C) f = some (some (.ref (prA K C f)))) && (decide (PySem.W.specialIn K (.ref (prA K C f)) "__get__" = some (some (.builtin "property.__get__"))) && (decide (PySem.W.takesIn K (.ref (prA K C f)) = some true) &&
    (match PySem.W.recIn K (prA K C f) "property" with
    | some (.ref _ :: _) => true
    | _ => false)))
theorem prB_ok {K : PySem.W.Frag} {C : Addr} {f : Str} (h : prB K C f = true) : PropOf K C f (prA K C f) (prG K C f) := by
  obtain ⟨h1, h⟩ := Bool.and_eq_true_iff.mp h
  obtain ⟨h2, h⟩ := Bool.and_eq_true_iff.mp h
  obtain ⟨h3, h⟩ := Bool.and_eq_true_iff.mp h
  refine ⟨of_decide_eq_true h1, of_decide_eq_true h2, of_decide_eq_true h3, ?_⟩
  unfold prG
  split at h
  · rename_i g rest e
    rw [e]
    exact ⟨rest, rfl⟩
  · cases h
/-- a def at an address -/
def fnAt (K : PySem.W.Frag) (a : Addr) : He.FnW := match K.lookup a with
  | some ⟨_, _, .func fd, _⟩ => some (fd.name, fd.qualname, fd.params, fd.body, fd.scope, fd.globals, fd.closure, fd.builtins)
  | _ => none
def fnAtB (K : PySem.W.Frag) (a : Addr) (d : He.DefD) : Bool := PySem.W.keepIn K (.ref a) && (match K.lookup a with
  | some ⟨_, _, .func fd, _⟩ => PySem.W.codeIn K fd.code d.qual && (He.dflB K fd.defaults (d.dvs K) && He.kwdB K fd.kwdefaults (d.kws K))
  | _ => false)
theorem fnAt_ok {K : PySem.W.Frag} {a : Addr} {d : He.DefD} (e : fnAt K a = d.val) (c : fnAtB K a d = true) : ∃ fd, FunD K d.name d.qual d.params d.body d.scope (d.dvs K) (d.kws K) a fd := by
  obtain ⟨kp, c2⟩ := Bool.and_eq_true_iff.mp c
  unfold fnAt at e
  cases q : K.lookup a with
  | none => rw [q] at c2; cases c2
  | some o =>
    obtain ⟨oc, od, dt, osl⟩ := o
    rw [q] at c2 e
    cases dt with
    | func fd =>
      obtain ⟨m1, m2, m3, m4, m5, m6, m7, m8, m9, m10, m11, m12, m13, m14, m15⟩ := fd
      have e3 : (some (m1, m2, m3, m4, m5, m6, m7, m15) : He.FnW) = some (d.name, d.qual, d.params, .stmts d.body, d.scope, mainGlobals, [], builtinsNs) := e
      simp only [Option.some.injEq, Prod.mk.injEq] at e3
      obtain ⟨q1, q2, q3, q4, q5, q6, q7, q8⟩ := e3
      subst q1 q2 q3 q4 q5 q6 q7 q8
      have c3 : (PySem.W.codeIn K m13 d.qual && (He.dflB K m8 (d.dvs K) && He.kwdB K m9 (d.kws K))) = true := c2
      obtain ⟨k1, k2⟩ := Bool.and_eq_true_iff.mp c3
      obtain ⟨k3, k4⟩ := Bool.and_eq_true_iff.mp k2
      exact ⟨_, ⟨oc, od, m8, m9, m10, m11, m12, m13, m14, osl, rfl, q, k1, He.dflB_ok k3, He.kwdB_ok k4⟩, kp⟩
    | _ => cases c2
/-- class, name, getter -/
abbrev PrD : Type := Str × Str × He.DefD
def prOk (K : PySem.W.Frag) (p : PrD) : Bool := prB K (He.ga K p.1) p.2.1 && fnAtB K (prG K (He.ga K p.1) p.2.1) p.2.2
abbrev AlZ : Type := He.AlX × Bool × List He.FnW
def obsZ (n : Nat) (fa : List He.Fa) (fn : List He.DefD) (fp : List PrD) (ts : List He.Tab) (ex : PySem.W.Frag → Bool) (g : Addr → Option Obj) : AlZ :=
  (obsY n fa fn ts ex g, (fp.all fun p => prOk (He.frT g (asY g n)) p), fp.map fun p => fnAt (He.frT g (asY g n)) (prG (He.frT g (asY g n)) (He.ga (He.frT g (asY g n)) p.1) p.2.1))
def valZ (fn : List He.DefD) (fp : List PrD) (ts : List He.Tab) (w : World) : AlZ := (He.valX fn ts w, true, fp.map fun p => p.2.2.val)
structure SaysZ (fa : List He.Fa) (fn : List He.DefD) (fp : List PrD) (ts : List He.Tab) (ex : PySem.W.Frag → Bool) (w : World) (h : Heap) (K : PySem.W.Frag) : Prop where
  x : He.SaysX fa fn ts [] ex w h K
  ok : (fp.all fun p => prOk K p) = true
  at_ : (fp.map fun p => fnAt K (prG K (He.ga K p.1) p.2.1)) = fp.map fun p => p.2.2.val
theorem saysZ_of {n : Nat} {fa : List He.Fa} {fn : List He.DefD} {fp : List PrD} {ts : List He.Tab} {ex : PySem.W.Frag → Bool} {w : World} {h : Heap} (e : obsZ n fa fn fp ts ex h.get? = valZ fn fp ts w) : SaysZ fa fn fp ts ex w h (He.frT h.get? (asY h.get? n)) :=
  ⟨saysY_of (congrArg (fun z : AlZ => z.1) e), congrArg (fun z : AlZ => z.2.1) e, congrArg (fun z : AlZ => z.2.2) e⟩
def hookZ (n : Nat) (fa : List He.Fa) (fn : List He.DefD) (fp : List PrD) (ts : List He.Tab) (ex : PySem.W.Frag → Bool) : PySem.W.Hook where
  α := AlZ
  obs := fun s => obsZ n fa fn fp ts ex s.heap.get?
  val := fun w => valZ fn fp ts w
  says := fun w h => ∃ K : PySem.W.Frag, K.In h ∧ SaysZ fa fn fp ts ex w h K
  of := fun _ _ e => ⟨_, He.frT_in, saysZ_of e⟩
  keeps := fun _ _ _ ⟨K, hK, c⟩ k => ⟨K, PySem.W.Frag.In.keeps hK k, ⟨⟨c.x.t, c.x.more, c.x.hd, c.x.out, fun p hp => k _ _ (c.x.empty p hp)⟩, c.ok, c.at_⟩⟩
theorem obsZ_eq {n : Nat} {fa : List He.Fa} {fn : List He.DefD} {fp : List PrD} {ts : List He.Tab} {ex : PySem.W.Frag → Bool} {g : Addr → Option Obj} {s : Shared} (h : ∀ a, g a = s.heap.get? a) : obsZ n fa fn fp ts ex g = (hookZ n fa fn fp ts ex).obs s := by
  have e : g = s.heap.get? := funext h
  rw [e] <;> rfl
theorem SaysZ.pr {fa : List He.Fa} {fn : List He.DefD} {fp : List PrD} {ts : List He.Tab} {ex : PySem.W.Frag → Bool} {w : World} {h : Heap} {K : PySem.W.Frag} (c : SaysZ fa fn fp ts ex w h K) (i : Nat) {C f : Str} {d : He.DefD} (e : fp[i]? = some (C, f, d)) :
    PropOf K (He.ga K C) f (prA K (He.ga K C) f) (prG K (He.ga K C) f) ∧ ∃ fd, FunD K d.name d.qual d.params d.body d.scope (d.dvs K) (d.kws K) (prG K (He.ga K C) f) fd := by
  have h1 : prOk K (C, f, d) = true := List.all_eq_true.mp c.ok _ (List.mem_of_getElem? e)
  obtain ⟨h2, h3⟩ := Bool.and_eq_true_iff.mp h1
  have h4 : (fp.map fun p => fnAt K (prG K (He.ga K p.1) p.2.1))[i]? = (fp.map fun p => p.2.2.val)[i]? := by rw [c.at_]
  rw [List.getElem?_map, List.getElem?_map, e] at h4
  exact ⟨prB_ok h2, fnAt_ok (Option.some.inj h4) h3⟩
variable [KC]
section
variable {E : ExtK} {X : Cx} [KX X] {e o : Expr} {pos : Pos}
def fCount : PyData → PyData → Option Slot
  | .str a, .str b => some (.pur (.int (Txt.count a b)))
  | _, _ => none
theorem se_count {apos : Pos} {qa qb sa sb : Bool} {eva evb : EvB} (ha : SB E X o qa sa eva) (hb : SB E X e qb sb evb) (hc : (qb || sa) = true := by rfl)
    (hs : starEach [e] X.env = [(false, eval e X.env)] := by rfl) (hbase : attributeBase o "count" X.env (eval o X.env) = eval o X.env := by rfl) (hline : (apos.endLine == pos.line) = true := by rfl) :
    SE E X (.Call (.Attribute o "count" apos) [e] [] pos) (qa && qb) (evBin fCount eva evb) :=
  str_m1 PySem.F.slot_str_count PySem.F.type_str_count mt_count (fun d e r h => by unfold fCount at h; split at h; exact ⟨_, rfl⟩; cases h) (fun x y d e s F H Q ex hd he h k => by
    unfold fCount at h
    split at h
    · cases h
      exact ⟨_, _, hd.str, by rw [he.str], k.data ex (.int _)⟩
    · cases h) ha hb hc hs hbase hline
end
end IX
namespace IX
open PySem PySem.Spec PyProof.Rows L2
section
variable {env : SEnv}
@[simp] theorem e_mkX {p b : Bool} {t : Nat} {g : PyData} : Slot.mark p (.ext b t g) = .ext p t g := rfl
@[simp] theorem e_mkO {p b : Bool} {ds : List PyData} : Slot.mark p (.own b ds) = .own p ds := rfl
@[simp] theorem e_isN : isNoneS (.pur .none) = true := rfl
@[simp] theorem e_count {a b : Str} : fCount (.str a) (.str b) = some (.pur (.int (Txt.count a b))) := rfl
@[simp] theorem e_objOf {C : Str} {b : Bool} {es : List (PyData × PyData)} : objOf C (.ext b 6 (.dict ((.none, .str C) :: es))) = some es := by unfold objOf; simp
theorem e_objAt {C : Str} {i : Nat} : objAt C env i = (env[i]?).bind fun s => (objOf C s).map fun es => (s.par, es) := rfl
theorem e_fd {C f : Str} {i : Nat} : evFd C i f env = (objAt C env i).bind fun q => (getE q.2 f).map fun d => (d, env) := rfl
theorem e_xFd {C f : Str} {i : Nat} {ev : EvB} : xFd C i f ev env = (ev env).bind fun q => (objAt C q.2 i).bind fun o => if o.2.length < 1000 then some (.nxt (q.2.set i (.ext o.1 6 (objS C (putO o.2 f q.1))))) else none := rfl
theorem e_xFdAug {C f : Str} {i : Nat} {g : PyData → PyData → Option Slot} {ev : EvB} : xFdAug C i f g ev env = (objAt C env i).bind fun o => (getE o.2 f).bind fun d0 => (ev env).bind fun q => match g d0 q.1 with
  | some (.pur d) => (objAt C q.2 i).bind fun o' => if o'.2.length < 1000 then some (.nxt (q.2.set i (.ext o'.1 6 (objS C (putO o'.2 f d))))) else none
  | _ => none := rfl
theorem e_evMe {C m : Str} {f : FSem} {i : Nat} {a : EvR} : evMe C m f i a env = (objAt C env i).bind fun q => match getE q.2 m with
  | none => evCall f (arR i a) env
  | some _ => none := rfl
theorem e_evMeK {C m : Str} {f : FSem} {is : List Nat} {i : Nat} {a : EvR} : evMeK C m f is i a env = (objAt C env i).bind fun q => match getE q.2 m with
  | none => evCallK f is (arR i arN) a env
  | some _ => none := rfl
theorem e_evPr {C : Str} {f : FSem} {i : Nat} : evPr C f i env = (objAt C env i).bind fun _ => evCall f (arR i arN) env := rfl
theorem e_evNew {C : Str} {f : FSem} {a : EvR} : evNew C f a env = (a env).bind fun q => (tmpRun f (.ext false 6 (objS C [])) q.1 q.2).bind fun z => if isNoneS z.1 = true then some (z.2.1, z.2.2) else none := rfl
theorem e_evCallT {f : FSem} {o : EvE} {a : EvR} : evCallT f o a env = (o env).bind fun p => (a p.2).bind fun q => (tmpRun f p.1 q.1 q.2).map fun z => (z.1, z.2.2) := rfl
theorem e_evMeT {C m : Str} {f : FSem} {o : EvE} {a : EvR} : evMeT C m f o a env = (o env).bind fun p => (objOf C p.1).bind fun es => match getE es m with
  | none => (a p.2).bind fun q => (tmpRun f p.1 q.1 q.2).map fun z => (z.1, z.2.2)
  | some _ => none := rfl
theorem e_evPrT {C : Str} {f : FSem} {o : EvE} : evPrT C f o env = (o env).bind fun p => (objOf C p.1).bind fun _ => (tmpRun f p.1 [] p.2).map fun z => (z.1, z.2.2) := rfl
theorem e_tmpRun {f : FSem} {s : Slot} {as : List Arg} : tmpRun f s as env = if refsOk as = true ∧ s.isObj = true ∧ s.par = false then (argSs env as).bind fun ss => (f (s.mark true :: ss)).bind fun q => match q.2 with
    | o :: os => if o.isObj = true ∧ o.par = true then (backS as os env).map fun e => (q.1, o.mark false, e) else none
    | [] => none
  else none := rfl
theorem e_xRepl2 {tab : List (Str × PyData)} {il io iw it : Nat} : xRepl2 tab il io iw it env = match env[il]?, env[it]? with
  | some (.pur (.str c)), some (.pur (.str x)) => (match tab.lookup c with
    | some (.tuple [.str y, .str z]) => if x.length + (x.length + 1) * z.length ≤ 16777216 then (stS io (.pur (.str y)) env).bind fun e1 => (stS iw (.pur (.str z)) e1).bind fun e2 => (stS it (.pur (.str (Txt.replace x y z))) e2).map .nxt else none
    | _ => none)
  | _, _ => none := rfl
end
end IX

/-! text IX55 -/
set_option maxHeartbeats 1000000
/-! A method with a star parameter: def m(self, *r), called with plain arguments. -/
namespace IX
open PySem PySem.Spec PyProof.Rows L2
variable [KC]
/-- a def's body runs as its meaning says -/
theorem body_spI {X : Cx} {N ps : List Str} {scope : Scope} {body : List Stmt} {n : Nat} {xb : EvS} {vs : List V} {H : Hp} {Q : VK} {XE : XK} (S : FnScope N ps scope) (hn : ps.length = n) (hb : SSs E0 X.nox body xb) (h : spI E0 (runDef N.length xb) n vs H Q XE) :
    ∃ t, PSs X body t ∧ t { nx := fun _ H' => Q .non H', rt := Q } (L2.start N vs) H := by
  obtain ⟨hl, F0, B, ow, args, r, outs, fh, bh, sep, la, ha, hf, k⟩ := h
  let fr : Fra := ⟨F0, H, B, vs⟩
  refine ⟨TSv E0 fr xb, (hb.ps fr).nox, ?_⟩
  have nl : n ≤ N.length := by have := congrArg List.length S.pre; rw [List.length_take] at this; omega
  have R : Rel E0 fr F0 H ow (args ++ List.replicate (N.length - args.length) .und) (L2.start N vs) := by
    refine ⟨fh, Ex.refl _, bh, fun _ _ _ => rfl, fun _ h => h, sep, ?_, fun i s e => ?_, fun i s e p => ?_⟩
    · unfold L2.start
      rw [List.length_append, List.length_append, List.length_replicate, List.length_replicate, List.length_map]
      omega
    · by_cases hi : i < args.length
      · rw [List.getElem?_append_left hi] at e
        obtain ⟨_, v, hv, hs⟩ := ha i s e
        refine .inr ⟨v, ?_, hs⟩
        unfold L2.start
        rw [List.getElem?_append_left (by rw [List.length_map]; omega), List.getElem?_map, hv]
        rfl
      · rw [List.getElem?_append_right (by omega), List.getElem?_replicate] at e
        split at e
        · cases e; exact .inl rfl
        · cases e
    · by_cases hi : i < args.length
      · rw [List.getElem?_append_left hi] at e
        obtain ⟨_, v, hv, hs⟩ := ha i s e
        refine ⟨v, hv, ?_⟩
        unfold L2.start
        rw [List.getElem?_append_left (by rw [List.length_map]; omega), List.getElem?_map, hv]
        rfl
      · rw [List.getElem?_append_right (by omega), List.getElem?_replicate] at e
        split at e
        · cases e; cases p
        · cases e
  have fin : ∀ {F' H' ow' σ' e' v r}, Rel E0 fr F' H' ow' e' σ' → Ex F0 F' → outsOf args e' = some outs → r.par = false → r ≠ .und → (∃ S : Addr → Prop, (∀ a, S a → ow' a = none ∧ F' a = none ∧ B a = none ∧ H' a ≠ none) ∧ Sl E0 F' H' S v r) → Ret E0 F0 H B vs outs F' H' ow' v r := fun {F' H' ow' σ' e' v r} R' f ho np nu rs =>
    ⟨R'.fh, f, R'.bh, R'.fb, R'.dom, R'.sep, fun i s e p => by
      have ee := outsOf_get ho e p
      obtain ⟨v, h1, h2⟩ := R'.pr i s ee p
      rcases R'.sl i s ee with z | ⟨v', h3, h4⟩
      · subst z; cases p
      · rw [h2] at h3; cases h3; exact ⟨v, h1, h4⟩, np, nu, rs⟩
  unfold runDef at hf
  split at hf
  · rename_i r' e' hx
    obtain ⟨os, h1, h2⟩ := Option.map_eq_some_iff.mp hf
    cases h2
    exact ⟨F0, ow, _, _, R, hx, fun v F' H' ow' σ' H0 ow0 R' f rs => k v F' H' ow' (fin R' f h1 rs.1 rs.2.1 (by
      obtain ⟨_, _, S, hS, hs⟩ := rs
      exact ⟨S, fun a sa => ⟨(hS a sa).1, (hS a sa).2.1, (hS a sa).2.2.1, (hS a sa).2.2.2.1⟩, hs⟩))⟩
  · rename_i e' hx
    obtain ⟨os, h1, h2⟩ := Option.map_eq_some_iff.mp hf
    cases h2
    exact ⟨F0, ow, _, _, R, hx, fun F' H' ow' σ' R' f => k .non F' H' ow' (fin R' f h1 rfl (fun z => nomatch z) ⟨fun _ => False, fun _ z => z.elim, .non⟩)⟩
  · cases hf
/-- what the values handed in promise: the star's tuple is laid at the call -/
def spV (f : FSem) : Sp := fun vs H Q E => ∃ v rest, vs = v :: rest ∧ rest.length ≤ 5 ∧ ∀ p, H p = none → spI E0 f 2 [v, .ref p] (upd H p (.tup rest)) Q E
structure FnV (P : Program) (w : World) (K : PySem.W.Frag) (mg : Str → Option Value) (base : Heap) (k : Nat) (f : Addr) (sp : Sp) : Prop where
  go : ∀ (A : Around) (out : List Env) (s : Shared) (H : Hp) (us : List Value) (vs : List V) (Q : VK) (E : XK), NoRep A → Room k A → Env0 P w K mg base A out s H → Vals vs us → sp vs H Q E →
    codeAny (model P w) A (.call (.ref f) ⟨us, []⟩) (CR CX0 out P w H s Q E) s
theorem FnV.mono {P : Program} {w : World} {K : PySem.W.Frag} {mg : Str → Option Value} {base : Heap} {j k : Nat} {f : Addr} {sp : Sp} (F : FnV P w K mg base j f sp) (h : j ≤ k) : FnV P w K mg base k f sp := ⟨fun A out s H us vs Q E g r => F.go A out s H us vs Q E g (r.mono h)⟩
theorem def_okV {P : Program} {w : World} {K : PySem.W.Frag} {mg : Str → Option Value} {base : Heap} {x qual : Str} {params : Arguments} {body : List Stmt} {scope : Scope} {f : Addr} {fd : FuncData} {N : List Str} {pa pv : Str} {k : Nat} {xb : EvS}
    (F : FunD K x qual params body scope [] [] f fd) (S : FnScope N [pa, pv] scope)
    (hb : ∀ (kV doc pm : Value) (an : Option Addr) (cdv ct u : Value) (rest : List Value), rest.length ≤ 5 → bindArgs (PySem.W.fnOf x qual params body scope .none kV doc pm an cdv ct) ⟨u :: rest, []⟩ = (newTuple rest >>= fun t => pure [(pa, u), (pv, t)]))
    (hbody : ∀ (cdv : Value) (A : Around) (outer : List Env) (s : Shared) (H : Hp) (XE : XK), Room k (A.deeper (envOfC qual scope s.heap.objs.size f cdv)) → NoRep A → SSs E0 (cxOf CX0 P w K mg base N qual scope f cdv A outer s H XE).nox body xb) :
    FnV P w K mg base (k + 1) f (spV (runDef N.length xb)) := by
  obtain ⟨oc, od, dV, kV, doc, pm, an, cdv, ct, osl, rfl, at_, code, hD, _⟩ := F.ex
  obtain rfl : dV = .none := by
    rcases hD with ⟨_, z⟩ | ⟨z, _⟩
    · exact z
    · exact absurd rfl z
  refine ⟨fun A out s H us vs Q E nr room e rv want => ?_⟩
  obtain ⟨v, rest, rfl, hl, want⟩ := want
  obtain ⟨u, ur, rfl, r1, rr⟩ : ∃ u ur, us = u :: ur ∧ RelV v u ∧ Vals rest ur := by
    cases rv with
    | cons a b => exact ⟨_, _, rfl, a, b⟩
  have ul : ur.length ≤ 5 := by rw [← rr.length]; exact hl
  have uz : ur.length ≤ sizeLine := Nat.le_trans ul (by decide)
  have stay : ∀ {b o}, base.get? b = some o → s.heap.get? b = some o := fun z => (e.bs _ _ z).1
  have inK : K.In s.heap := e.mod.kin.keeps fun _ _ z => stay z
  let tup : Obj := { cls := .type "tuple", data := .seq ur.toArray }
  let h2 : Heap := s.heap.push tup
  let p : Addr := s.heap.objs.size
  let H2 : Hp := upd H p (.tup rest)
  have np : H p = none := e.hok.fresh (Nat.le_refl _)
  have kp : ∀ b o, s.heap.get? b = some o → h2.get? b = some o := fun b o z => Heap.get?_push_of_some _ z
  have laid : ObjOk P w H2 h2 p (.tup rest) := ⟨Nat.le_trans hl (by decide), ur, rr, ⟨_, Heap.get?_push_size _ rfl, rfl, _, rfl⟩⟩
  have ok2 := e.hok.laid kp (Nat.le_refl _) laid
  have un : Un (frs out) [] H H2 s.heap h2 := Un.laid kp (Nat.le_refl _) np
  have e2 : Env0 P w K mg base A out { s with heap := h2 } H2 := by
    refine ⟨e.frames, e.mod, fun b o z => ⟨kp b o (e.bs b o z).1, ?_⟩, ?_, Heap.FunFrames.of_keeps (fun b o z _ => ⟨o, kp b o z, rfl⟩) e.funs, fun b z => ?_, ok2, e.bare⟩
    · show upd _ _ _ _ = _
      rw [upd_ne (Nat.ne_of_lt (Heap.lt_size (e.bs b o z).1))]
      exact (e.bs b o z).2
    · show base.objs.size ≤ (s.heap.push tup).objs.size
      rw [Heap.size_push]
      exact Nat.le_succ_of_le e.bsz
    · obtain ⟨_, o, ho, _⟩ := e.funs.mem z
      show upd _ _ _ _ = _
      rw [upd_ne (Nat.ne_of_lt (Heap.lt_size ho))]
      exact e.frf b z
  have rv2 : Vals [v, V.ref p] [u, Value.ref p] := .cons r1 (.cons rfl .nil)
  refine codeAny_call_function room.depth (inK _ _ at_) rfl S.co S.gen rfl (PySem.W.codeRec_of inK code) ?_
  rw [hb kV doc pm an cdv ct u ur ul]
  refine wpAny_bind (wpAny_newTuple (wpAny_pure ?_) uz)
  refine wpAny_newFunctionEnv_cells (s := { s with heap := h2 }) S.kind (fun y hy => ?_) fun env henv s1 made => ?_
  · rcases S.par y.1 (List.of_mem_zip (a := y.1) (b := y.2) (l₁ := [pa, pv]) (l₂ := [u, Value.ref p]) hy).1 with z | z
    · exact .inl z
    · exact .inr ⟨z, PySem.W.cellsFrom_some _ _ _ (.inl z)⟩
  · cases henv
    refine ⟨(e2.mod.nolimit.keeps fun b o z => (e2.bs b o z).1).keeps made.toInCall.keep, codeAny_func ?_⟩
    obtain ⟨t, run, st⟩ := body_spI (X := cxOf CX0 P w K mg base N qual scope f cdv A out { s with heap := h2 } H2 E) S rfl (hbody cdv A out { s with heap := h2 } H2 E (room.deeper _) nr) (want p np)
    refine wpAny_mono (run.run [] s1 _ H2 _ (inv_start S room.hd e2 rfl rv2 made) st) (fun fl s2 q2 => ?_) fun _ _ z => z
    have z := body_end q2
    have fin : ∀ {u'}, CE out P w H2 { s with heap := h2 } Q u' s2 → CE out P w H s Q u' s2 := fun ⟨v', H', a1, a2, a3, a4, a5, a6⟩ => ⟨v', H', a1, a2, un.trans a3, a4, a5, a6⟩
    cases fl <;> first | exact fin z | exact z.elim
structure MeV (P : Program) (w : World) (mg : Str → Option Value) (base : Heap) (k : Nat) (C m : Str) (f : FSem) : Prop where
  ex : ∃ fA : Addr, FnV P w KC.K mg base k fA (spV f) ∧ Meth KC.K (He.ga KC.K C) m fA
def evMeV (C m : Str) (f : FSem) (i : Nat) (a : EvA) : EvE := fun env => (objAt C env i).bind fun q => match getE q.2 m with
  | none => (a env).bind fun p => if p.1.length ≤ 5 then evCall f (fun e => some ([.ref i, .val (.tuple p.1)], e)) p.2 else none
  | some _ => none
section
variable {X : Cx} [hx : KX X] {e o : Expr} {es : List Expr} {p pos apos : Pos} {k j i : Nat} {x C m : Str} {f : FSem} {fl : List Str} {fr : Fra} {σ : L2.St} {H : Hp} {Q : VK} {XE : XK} {q : Bool} {ev : EvA}
theorem run_V {pins : List (Addr × Obj)} {s : Shared} {fA : Addr} {sp : Sp} {us : List Value} {vs : List V} (F : FnV X.prog X.w X.K X.mg X.base k fA sp) (nr : NoRep X.A) (room : Room k X.A) (inv : Inv X pins σ H s) (rv : Vals vs us) (want : sp vs H Q XE) :
    wpAny (model X.prog X.w) X.A (PySem.call (.ref fA) us []) (EP X pins σ Q) X.xe s := by
  refine wpAny_call (codeAny_mono (F.go X.A X.stack s H us vs Q XE nr room inv.env0 rv want) fun r s2 h2 => ?_)
  rcases r with e2 | (v2 | _ | _ | _)
  · exact h2.elim
  all_goals first | exact inv.after h2 | exact h2.elim
theorem peMeV {pl : Sem Bool} {ta : TE} {t : TA} {g CA : Addr} {sp : Sp} (ho : PE X o ta) (c : Cls X.K CA) (hm : Meth X.K CA m g) (F : FnV X.prog X.w X.K X.mg X.base k g sp) (nr : NoRep X.A) (room : Room k X.A) (ha : PA X (e :: es) t)
    (he : starEach (e :: es) X.env = (false, eval e X.env) :: starEach es X.env) (hpl : (backTo pos (starEach es X.env)).any (·.1) = false)
    (ht : eval (.Call (.Attribute o m apos) (e :: es) [] pos) X.env = (do
      let ov ← eval o X.env
      standAt apos.atName
      let (f, first) ← holding [ov] (getMethod ov m pl)
      callWith pos f first (backTo pos (starEach (e :: es) X.env)) (backToKw pos (keywordEach [] X.env)))) : PE X (.Call (.Attribute o m apos) (e :: es) [] pos) (tMe CA m ta t sp XE) := by
  refine ⟨fun pins s σ H Q inv want => PySem.W.methodCall_KW (pl := pl) (thn (ho.run pins s σ H _ inv want) fun u s1 ⟨y, H1, i1, ry, a, dx, fs, ey, at_, l, q⟩ => ?_) ht⟩
  subst ey
  cases (show u = Value.ref a from ry)
  refine getmeth_ok i1 at_ c hm l (PySem.W.callWith_K (first := [.ref a]) (h₀ := X.base) i1.ok.mod.kin hm.kp (thn (ha.run pos pins s1 σ H1 _ i1 q) fun us s2 ⟨vs, H2, i2, rv, q2⟩ => ⟨i2.kIn, ?_⟩) he hpl)
  have rv2 : Vals (V.ref a :: vs) (Value.ref a :: us) := .cons rfl rv
  exact run_V (us := .ref a :: us) F nr room i2 rv2 q2
theorem meV_core (h : TQ E0 fr false (evMeV C m f i ev) σ H Q) : tMe (He.ga KC.K C) m (tVar i) (TAp E0 fr q ev) (spV f) XE σ H Q := by
  obtain ⟨F, ow, env, r, env', R, ee, k⟩ := h
  obtain ⟨⟨b, es⟩, h0, ee⟩ := bind2 ee
  dsimp only at ee
  split at ee
  · rename_i hm
    obtain ⟨⟨ds, e1⟩, h6, ee⟩ := bind2 ee
    dsimp only at ee
    split at ee
    · rename_i hlen
      obtain ⟨as, e1', ss, outs, h1, h2, h3, h4, h5⟩ := evCall_some ee
      cases h1
      obtain ⟨a, hv, I⟩ := R.obj h0
      obtain ⟨dx, fs, s1, s2, g1, g2, r⟩ := I.ex
      refine ⟨_, hv, a, dx, fs, rfl, g1, keys_none r hm, F, ow, env, ds, e1, R, h6, fun vs F' H' ow' R' g hq rp => ⟨_, vs, rfl, by rw [rp.length]; exact hlen, fun p hp => ?_⟩⟩
      have al := Alloc.new (o := .tup vs) R'.fh hp
      have aok : ArgsOk (upd F' p (.tup vs)) σ [.ref a, .ref p] [.ref i, .val (.tuple ds)] := .ref hv (.val (.tup (.inl upd_same) (RpA.mono al.f _ _ rp)) .nil)
      exact call_core (br := true) (q := false) (R'.alloc al) (g.tr (al.grow R')) (fun z => nomatch z) aok rfl h2 h3 h4 h5 (fun z => nomatch z) (fun v F2 H2 ow2 R2 g2 q2 r2 => k v F2 H2 ow2 R2 g2 (fun z => nomatch z) r2)
    · cases ee
  · cases ee
theorem se_meV {pl : Sem Bool} (T : ClsT C fl) (M : MeV X.prog X.w X.mg X.base k C m f) (nr : NoRep X.A) (hr : Room j X.A) (hk : k ≤ j) (h : PE X (.Name x p) (tVar i)) (ha : SA E0 X (e :: es) q ev)
    (he : starEach (e :: es) X.env = (false, eval e X.env) :: starEach es X.env := by rfl) (hpl : (backTo pos (starEach es X.env)).any (·.1) = false := by rfl)
    (ht : eval (.Call (.Attribute (.Name x p) m apos) (e :: es) [] pos) X.env = (do
      let ov ← eval (.Name x p) X.env
      standAt apos.atName
      let (f, first) ← holding [ov] (getMethod ov m pl)
      callWith pos f first (backTo pos (starEach (e :: es) X.env)) (backToKw pos (keywordEach [] X.env))) := by rfl) :
    SE E0 X (.Call (.Attribute (.Name x p) m apos) (e :: es) [] pos) false (evMeV C m f i ev) := ⟨fun fr => by
  obtain ⟨fA, F1, hM⟩ := M.ex
  have F1 : FnV X.prog X.w X.K X.mg X.base k fA (spV f) := by rw [hx.eq]; exact F1
  have hM : Meth X.K (He.ga KC.K C) m fA := by rw [hx.eq]; exact hM
  exact (peMeV (XE := L2.E0) h T.c hM (F1.mono hk) nr hr (ha.pa fr) he hpl ht).weak fun σ H Q z => meV_core z⟩
end
/-! ### join of a tuple -/
def fJoinT : PyData → PyData → Option Slot
  | .str z, .tuple ds => (strsD ds).bind fun ys => if (ys.map (·.length)).sum + ys.length * z.length ≤ 16777216 then some (.pur (.str (Txt.join z ys))) else none
  | _, _ => none
theorem se_joinT {X : Cx} [KX X] {o e : Expr} {apos pos : Pos} {qa qb sa sb : Bool} {eva evb : EvB} (ha : SB E0 X o qa sa eva) (hb : SB E0 X e qb sb evb) (hc : (qb || sa) = true := by rfl)
    (hs : starEach [e] X.env = [(false, eval e X.env)] := by rfl) (hbase : attributeBase o "join" X.env (eval o X.env) = eval o X.env := by rfl) (hline : (apos.endLine == pos.line) = true := by rfl) :
    SE E0 X (.Call (.Attribute o "join" apos) [e] [] pos) (qa && qb) (evBin fJoinT eva evb) :=
  str_m1 PySem.F.slot_str_join PySem.F.type_str_join mt_join (fun d e r h => by unfold fJoinT at h; split at h; exact ⟨_, rfl⟩; cases h) (fun x y d e s F H Q ex hd he h k => by
    unfold fJoinT at h
    split at h
    · obtain ⟨ys, h1, h2⟩ := bind2 h
      split at h2
      · rename_i z
        cases h2
        obtain ⟨p, vs, rfl, hp, rp⟩ := he.tup
        rw [strsD_map h1] at rp
        have e := RpA.of_strs rp
        subst e
        exact ⟨_, p, ys, hd.str, rfl, .inr (hp.sq ex), z, k.data ex (.str _)⟩
      · cases h2
    · cases h) ha hb hc hs hbase hline
end IX
namespace IX
open PySem PySem.Spec PyProof.Rows L2
/-! the simp kit -/
theorem e_evMeV {C m : Str} {f : FSem} {i : Nat} {a : EvA} {env : SEnv} : evMeV C m f i a env = (objAt C env i).bind fun q => match getE q.2 m with
  | none => (a env).bind fun p => if p.1.length ≤ 5 then evCall f (fun e => some ([.ref i, .val (.tuple p.1)], e)) p.2 else none
  | some _ => none := rfl
theorem e_joinT {z : Str} {ds : List PyData} : fJoinT (.str z) (.tuple ds) = (strsD ds).bind fun ys => if (ys.map (·.length)).sum + ys.length * z.length ≤ 16777216 then some (.pur (.str (Txt.join z ys))) else none := rfl
end IX

/-! text IX56 -/
set_option maxHeartbeats 2000000
/-! Own exceptions made as values, also by name. -/
namespace IX
section
open PySem PySem.HandSPX
variable {M : Model} {prog : Program} {w : World} {A : Around} {E : Value → Shared → Prop} {R : Result → Shared → Prop} {h : Heap} {g : Array GenState} {d : Drawn} {t : Nat} {os : OsState}
variable {nm q : Str} {C N : Addr} {bs bm bmB : List Value} {hdct : Bool} {sn : List Str} {sub : List Value} {ab : Bool} {col : Option Bool} {dd : Option Addr} {k0 k1 k2 k3 k5 : Option Value} {B newId initId : String} {kw : List (Str × Value)}
theorem chkNewK (F : ExcBaseFacts B newId initId bmB) (hT : ∀ X : String, bm.contains (.type X) = bmB.contains (.type X)) {Q : Unit → Shared → Prop}
    (hC : h.get? C = some (excClassObj nm q C N bs bm hdct sn sub ab col dd k0 k1 k2 k3 k5 newId)) (hq : Q () ⟨h, g, d, t, os⟩) : wpAny M A (checkBuiltinCall newId ⟨[.ref C], kw⟩) Q E ⟨h, g, d, t, os⟩ := by
  have hcont : (Value.ref C :: bm).contains (.type B) = true := by rw [List.contains_cons, hT, F.hasB, Bool.or_true]
  have hstar := F.noStar
  simp only [checkBuiltinCall, F.newKind, F.newSplit, F.newRow]
  repeat (first | refine wpAny_loadPart_at hC ?_ | (refine wpAny_isSubtype_exc hC ?_; rw [hcont]) | refine wpAny_staticBase_exc hC ?_ | refine wpAny_madeBy_exc hC ?_ | simp only [bne_self_eq_false, Bool.false_eq_true, if_false] | wp_step)
  exact hq
theorem newOwnK (F : ExcBaseFacts B newId initId bmB) (hT : ∀ X : String, bm.contains (.type X) = bmB.contains (.type X))
    (hC : h.get? C = some (excClassObj nm q C N bs bm hdct sn sub ab col dd k0 k1 k2 k3 k5 newId))
    (hq : R (.ok (.ret (.ref (h.objs.size + 1)))) ⟨(h.push { cls := .type "tuple", data := .seq ([] : List Value).toArray }).push
      { cls := .ref C, data := .fields #[.ref h.objs.size, .none, .none, .none, .bool false, .none] }, g, d, t, os⟩) :
    codeAny (model prog w) A (.builtin newId ⟨[.ref C], kw⟩) R ⟨h, g, d, t, os⟩ := by
  have hends := F.ends
  have hcB : (Value.ref C :: bm).contains (.type B) = true := by rw [List.contains_cons, hT, F.hasB, Bool.or_true]
  have hcA : (Value.ref C :: bm).contains (.type "AttributeError") = false := by rw [List.contains_cons, hT, F.noAttr]; rfl
  have hcN : (Value.ref C :: bm).contains (.type "NameError") = false := by rw [List.contains_cons, hT, F.noName]; rfl
  refine codeAny_builtinAt F.entry ?_
  unfold Builtin.«BaseException.__new__»
  refine wpAt_bind ?_
  show wpAt _ _ _ (stack >>= _) _ _ _
  refine wpAt_bind (wpAt_stack fun p below => wpAt_of_wpAny ?_)
  wp_walk
  refine wpAt_of_wpAny ?_
  rw [F.owner]
  repeat (first | with_reducible refine wpAny_madeHere_exc F.canon hC ?_ | with_reducible refine wpAny_loadPart_at hC ?_ | (with_reducible refine wpAny_isSubtype_exc hC ?_; first | rw [hcB] | rw [hcA] | rw [hcN]) | wp_step)
  show R _ _
  rw [Heap.size_push]
  exact hq
theorem typeCallK (F : ExcBaseFacts B newId initId bmB) (hT : ∀ X : String, bm.contains (.type X) = bmB.contains (.type X)) {fI : Addr} {Q : Fin → Shared → Prop}
    (hC : h.get? C = some (excClassObj nm q C N bs bm hdct sn sub ab col dd k0 k1 k2 k3 k5 newId))
    (hi : W.Looks (model prog w) h (typeLookup (.ref C) "__init__") (some (.ref fI))) (hb : ∀ self, W.Looks (model prog w) h (bindSpecial (.ref fI) self) (.ref fI, [self]))
    (hq : codeAny (model prog w) A (.call (.ref fI) ⟨[.ref (h.objs.size + 1)], kw⟩)
      (fun r s' => match r with | .ok (.ret v) => v = .none ∧ Q (.done (.ret (.ref (h.objs.size + 1)))) s' | .ok _ => False | .error e => E e s')
      ⟨(h.push (W.kdv_tup [])).push (excO C h.objs.size), g, d, t, os⟩) :
    wpAny (model prog w) A (Builtin.«type.__call__» ⟨[.ref C], kw⟩) Q E ⟨h, g, d, t, os⟩ := by
  repeat (first | with_reducible refine wpAny_loadPart_at hC ?_ | with_reducible refine wpAny_madeBy_exc hC ?_ | wp_step)
  refine codeAny_call_builtin_code (Code.quiet_builtin _ F.quiet) (chkNewK F hT hC ?_)
  refine newOwnK F hT hC ?_
  show wpAny _ _ _ _ _ _
  have k : ∀ b o, h.get? b = some o → ((h.push (W.kdv_tup [])).push (excO C h.objs.size)).get? b = some o := fun b o e => Heap.get?_push_of_some _ (Heap.get?_push_of_some _ e)
  have hC₁ := k _ _ hC
  have hget : ((h.push (W.kdv_tup [])).push (excO C h.objs.size)).get? (h.objs.size + 1) = some (excO C h.objs.size) := by heap_get
  have hcC : (Value.ref C :: bm).contains (.ref C) = true := by simp
  have i1 := hi.keeps k
  have b1 := (hb (.ref (h.objs.size + 1))).keeps k
  unfold isInstance
  repeat (first | with_reducible refine wpAny_loadPart_at hget ?_ | (with_reducible refine wpAny_isSubtype_exc hC₁ ?_; rw [hcC]) | wp_step)
  show wpAny _ _ (typeLookup (.ref C) _) _ _ _
  refine i1.at ?_
  refine wpAny_holding (wpAny_bind (b1.at ?_))
  refine wpAny_bind (wpAny_call (codeAny_mono hq fun r s' z => ?_))
  rcases r with e | (v | _ | _ | _) <;> first | exact z | exact z.elim | skip
  obtain ⟨rfl, z⟩ := z
  first
    | exact wpAny_pure (wpAny_pure z)
    | (wp_walk; exact z)
theorem chkCallK {Q : Unit → Shared → Prop} (hC : h.get? C = some (excClassObj nm q C N bs bm hdct sn sub ab col dd k0 k1 k2 k3 k5 newId))
    (hq : Q () ⟨h, g, d, t, os⟩) : wpAny M A (checkBuiltinCall "type.__call__" ⟨[.ref C], kw⟩) Q E ⟨h, g, d, t, os⟩ := by
  have f3 := tc_sub
  have hT : (⟨h, g, d, t, os⟩ : Shared).TypeIs (.ref C) "type" := ⟨_, hC, rfl⟩
  simp only [checkBuiltinCall, tc_kind, tc_split]
  repeat (any_goals (first | assumption | with_reducible refine wpAny_loadPart_at hC ?_ | with_reducible refine wpAny_onRaise ?_ | with_reducible refine wpAny_map ?_ | wp_step))
theorem callOwnK (F : ExcBaseFacts B newId initId bmB) (hT : ∀ X : String, bm.contains (.type X) = bmB.contains (.type X)) {fI : Addr}
    (hC : h.get? C = some (excClassObj nm q C N bs bm hdct sn sub ab col dd k0 k1 k2 k3 k5 newId))
    (hi : W.Looks (model prog w) h (typeLookup (.ref C) "__init__") (some (.ref fI))) (hb : ∀ self, W.Looks (model prog w) h (bindSpecial (.ref fI) self) (.ref fI, [self]))
    (hq : codeAny (model prog w) (A.under (.builtin "type.__call__" ⟨[.ref C], kw⟩)) (.call (.ref fI) ⟨[.ref (h.objs.size + 1)], kw⟩) (W.InitBack (h.objs.size + 1) R)
      ⟨(h.push (W.kdv_tup [])).push (excO C h.objs.size), g, d, t, os⟩) :
    codeAny (model prog w) A (.call (.ref C) ⟨[], kw⟩) R ⟨h, g, d, t, os⟩ := by
  have f1 := tc_lookup
  have f2 := tc_bind (.ref C)
  have hTy : (⟨h, g, d, t, os⟩ : Shared).TypeIs (.ref C) "type" := ⟨_, hC, rfl⟩
  refine codeAny_of_tree ?_
  show wpAny _ _ (callAny (.ref C) _) _ _ _
  repeat (any_goals (first | assumption | with_reducible refine wpAny_loadPart_at hC ?_ | wp_step))
  refine ⟨rfl, ?_⟩
  refine codeAny_call_builtin_at (Code.quiet_builtin _ (by decide +kernel)) entry_typeCall (chkCallK hC (typeCallK F hT hC hi hb ?_))
  refine codeAny_mono hq fun r s' z => ?_
  rcases r with e | (v | _ | _ | _) <;> exact z
end
end IX
namespace IX
open PySem PySem.Spec PyProof.Rows L2
section
variable {X : Cx} {fl : Str} {C : Addr} {x : Str} {p pos : Pos} {e : Expr} {te : TE}
theorem xc_madeK (T : XcC X.K fl C) (pf : ((X.prog.main.file : Str) == fl) = true) (pt : (X.prog.main.scope.names.lookup ("super" : Str)).isSome = false) (sup : X.mg ("super" : Str) = none) {k : Nat} (hr : Room (k + 1) X.A) {pins : List (Addr × Obj)} {σ : L2.St} {H1 : Hp} {s1 : Shared} {v : V} {u : Value} (I1 : Inv X pins σ H1 s1) (rv : RelV v u)
    {R : Value → Shared → Prop} {E : Value → Shared → Prop}
    (go : ∀ (a dx t1 : Addr) (G h2 : Heap) (tk : Nat), H1 dx = none → H1 a = none → dx ≠ a → Inv X pins σ (upd H1 dx (.xd [("value", v)])) { s1 with heap := G, toks := tk } → (∀ b o, G.get? b = some o → h2.get? b = some o) → G.get? a = none → h2.get? a = some { cls := .ref C, dict := some dx, data := .fields #[.ref t1, .none, .none, .none, .bool false, .none] } →
      R (.ref a) { s1 with heap := h2, toks := tk }) :
    wpAny (model X.prog X.w) X.A (PySem.call (.ref C) [] [("value", u)]) R E s1 := by
  obtain ⟨fI, init, tyI, run⟩ := xc_init (w := X.w) T pf pt
  obtain ⟨nm, qn, Nn, bs, bm, sn, sub, ab, col, dd, k0, k1, k2, k3, k5, hC, hbm⟩ := T.o.cls
  obtain ⟨hp, g, d, t, os⟩ := s1
  obtain ⟨mb, bns, bb⟩ := I1.mod.blt
  have KIn : X.K.In hp := I1.kIn
  let h1 : Heap := (hp.push (PySem.W.kdv_tup [])).push (HandSPX.excO C hp.objs.size)
  have up : ∀ b o, hp.get? b = some o → h1.get? b = some o := fun b o z => Heap.get?_push_of_some _ (Heap.get?_push_of_some _ z)
  have at_ : h1.get? (hp.objs.size + 1) = some (HandSPX.excO C hp.objs.size) := by show ((hp.push (PySem.W.kdv_tup [])).push (HandSPX.excO C hp.objs.size)).get? _ = _; heap_get
  have fresh : ∀ {b : Addr}, hp.objs.size ≤ b → H1 b = none := fun z => I1.hok.fresh z
  have nK : X.K.lookup (hp.objs.size + 1) = none := by
    cases z : X.K.lookup (hp.objs.size + 1) with
    | none => rfl
    | some o => exact absurd (Heap.lt_size (KIn _ _ z)) (by show ¬ hp.objs.size + 1 < hp.objs.size; omega)
  refine wpAny_call (callOwnK F.excBase_ValueError (fun Y => HandSPX.refsVE_contains Y bm hbm) (KIn _ _ hC) (PySem.W.looks_findIn KIn init) (fun self => PySem.W.bind_fn KIn self tyI) ?_)
  refine run _ h1 g d t os X.mg mb (hp.objs.size + 1) hp.objs.size u _ _ (KIn.keeps up) nK (I1.nolimit.keeps up) ((I1.mod.glob.keeps I1.bk).keeps up) sup ((bns.keeps I1.bk).keeps up) ((bb _ (by decide)).trans (by decide +kernel)) (hr.make C [] [("value", u)]).depth at_ (.inr rfl) fun h2 tk dx t1 k2 dn dne hx hn => ?_
  have far : hp.objs.size ≤ dx := by
    have : h1.objs.size = hp.objs.size + 2 := by show (((hp.push _).push _).objs.size) = _; rw [Heap.size_push, Heap.size_push]
    omega
  obtain ⟨G, g1, g2⟩ := restrict h2 fun b => decide (b ≠ hp.objs.size + 1)
  have gk : ∀ b, b ≠ hp.objs.size + 1 → G.get? b = h2.get? b := fun b hb => g1 b (decide_eq_true hb)
  have keep : ∀ b o, hp.get? b = some o → G.get? b = some o := fun b o z => by
    have nb : b ≠ hp.objs.size + 1 := Nat.ne_of_lt (Nat.lt_of_lt_of_le (Heap.lt_size z) (Nat.le_succ _))
    rw [gk b nb]
    exact k2 b o nb (up b o z)
  have lay : Inv X pins σ (upd H1 dx (.xd [("value", v)])) { (⟨hp, g, d, t, os⟩ : Shared) with heap := G, toks := tk } := I1.laid (t' := tk) (a := dx) (o := .xd [("value", v)]) keep far ⟨_, hn.at fun o y => (gk dx dne).trans y, fun f => by
    show RelO ([(("value" : Str), v)].lookup f) (if f = ("value" : Str) then some u else none)
    by_cases z : f = ("value" : Str)
    · subst z; exact rv
    · rw [if_neg z]
      have : ([(("value" : Str), v)].lookup f) = none := by
        rw [List.lookup_cons]
        have : (f == ("value" : Str)) = false := by simpa using z
        rw [this]; rfl
      rw [this]; trivial⟩
  refine ⟨rfl, ?_⟩
  exact go (hp.objs.size + 1) dx t1 G h2 tk (fresh far) (fresh (Nat.le_succ _)) dne lay (fun b o z => by
    by_cases hb : b = hp.objs.size + 1
    · rw [hb, g2 _ (by simp)] at z; cases z
    · rw [← gk b hb]; exact z) (g2 _ (by simp)) hx

/-- C(e), a new exception as a value -/
theorem pe_newX (T : XcC X.K fl C) (pf : ((X.prog.main.file : Str) == fl) = true) (pt : (X.prog.main.scope.names.lookup ("super" : Str)).isSome = false) (sup : X.mg ("super" : Str) = none) {k : Nat} (hr : Room (k + 1) X.A) (hg : Gl X x) (hm : X.mg x = some (.ref C)) (he : PE X e te)
    (hdb : (x == ("__debug__" : Str)) = false := by decide) (hs : starEach [e] X.env = (false, eval e X.env) :: starEach [] X.env := by rfl) :
    PE X (.Call (.Name x p) [e] [] pos) (fun σ H Q => te σ H fun v H1 => ∀ a dx, H1 a = none → H1 dx = none → dx ≠ a → Q (.ref a) (upd (upd H1 dx (.xd [("value", v)])) a (ExZ (.ref C) dx a))) := by
  refine ⟨fun pins s σ H Q I h => ?_⟩
  refine wpAny_Call_Name_kw (ld_glob I hg hm ?_ hdb)
  refine PySem.W.callWith_K (h₀ := X.base) I.ok.mod.kin T.o.kC ?_ hs (by rfl)
  rw [hs]
  show wpAny _ _ (spliced ((false, eval e X.env) :: backTo pos (starEach [] X.env))) _ _ s
  refine Calls.spliced_cons (thn (he.run pins s σ H _ I h) fun u s1 ⟨v, H1, I1, r1, q1⟩ => ?_)
  refine Calls.spliced_nil ⟨I1.kIn, ?_⟩
  show wpAny _ _ (call (.ref C) [u]) _ _ _
  refine xc_made T pf pt sup hr I1 r1 fun a dx t1 G h2 tk nd na ne J kk ga ha => ?_
  exact ⟨.ref a, _, J.laidN (t' := tk) kk ga (by rw [upd_ne ne.symm]; exact na) (exZ_ok ha ⟨rfl, rfl⟩ rfl), rfl, q1 a dx na nd ne⟩
/-- C(value=e) -/
theorem pe_newXK {kp : Pos} (T : XcC X.K fl C) (pf : ((X.prog.main.file : Str) == fl) = true) (pt : (X.prog.main.scope.names.lookup ("super" : Str)).isSome = false) (sup : X.mg ("super" : Str) = none) {k : Nat} (hr : Room (k + 1) X.A) (hg : Gl X x) (hm : X.mg x = some (.ref C)) (he : PE X e te)
    (hdb : (x == ("__debug__" : Str)) = false := by decide) :
    PE X (.Call (.Name x p) [] [⟨some "value", e, kp⟩] pos) (fun σ H Q => te σ H fun v H1 => ∀ a dx, H1 a = none → H1 dx = none → dx ≠ a → Q (.ref a) (upd (upd H1 dx (.xd [("value", v)])) a (ExZ (.ref C) dx a))) := by
  refine ⟨fun pins s σ H Q I h => ?_⟩
  refine wpAny_Call_Name_kw (ld_glob I hg hm ?_ hdb)
  have hkw : PK X [⟨some "value", e, kp⟩] (tCons te tNil) := pk_cons he pk_nil
  refine PySem.W.callWith_KW0 (h₀ := X.base) I.ok.mod.kin T.o.kC rfl (thn (hkw.run pos pins s σ H (fun zs H1 => match zs with
    | [v] => ∀ a dx, H1 a = none → H1 dx = none → dx ≠ a → Q (.ref a) (upd (upd H1 dx (.xd [("value", v)])) a (ExZ (.ref C) dx a))
    | _ => False) I h) fun us s1 ⟨vs, H1, I1, rv, q1⟩ => ⟨I1.kIn, ?_⟩)
  · obtain ⟨v, rfl⟩ : ∃ v, vs = [v] := by
      match vs, q1 with
      | [v], _ => exact ⟨v, rfl⟩
    obtain ⟨u, rfl, r1⟩ : ∃ u, us = [u] ∧ RelV v u := by
      cases rv with
      | cons a b => cases b with
        | nil => exact ⟨_, rfl, a⟩
    show wpAny _ _ (call (.ref C) [] [("value", u)]) _ _ _
    refine xc_madeK T pf pt sup hr I1 r1 fun a dx t1 G h2 tk nd na ne J kk ga ha => ?_
    exact ⟨.ref a, _, J.laidN (t' := tk) kk ga (by rw [upd_ne ne.symm]; exact na) (exZ_ok ha ⟨rfl, rfl⟩ rfl), rfl, q1 a dx na nd ne⟩
end
variable [KC]
def evNewX (c : Str) (ev : EvB) : EvE := fun env => (ev env).map fun q => (.ext false 4 (exS c q.1), q.2)
section
variable {X : Cx} [hx : KX X] {fl c : Str} {p pos kp : Pos} {e : Expr} {ev : EvB} {q : Bool} {k : Nat} {fr : Fra} {σ : L2.St} {H : Hp} {Q : VK}
theorem newX_core (h : TQ E0 fr false (evNewX c ev) σ H Q) : TP E0 fr q ev σ H fun v H1 => ∀ a dx, H1 a = none → H1 dx = none → dx ≠ a → Q (.ref a) (upd (upd H1 dx (.xd [("value", v)])) a (ExZ (excA c) dx a)) := by
  obtain ⟨F, ow, env, r, env', R, ee, k⟩ := h
  obtain ⟨⟨d, e1⟩, h1, ee⟩ := Option.map_eq_some_iff.mp ee
  cases ee
  refine ⟨F, ow, env, d, e1, R, h1, fun v F' H' ow' R' g hq rv a dx na nd ne => ?_⟩
  have a1 : Alloc F' H' F' (upd H' dx (.xd [("value", v)])) := Alloc.tmp R'.fh nd
  have na2 : upd H' dx (.xd [("value", v)]) a = none := by rw [upd_ne ne.symm]; exact na
  have a2 : Alloc F' (upd H' dx (.xd [("value", v)])) F' (upd (upd H' dx (.xd [("value", v)])) a (ExZ (excA c) dx a)) := Alloc.tmp a1.fh na2
  have al := a1.tr a2
  have hA : upd (upd H' dx (.xd [("value", v)])) a (ExZ (excA c) dx a) a = some (ExK c dx a) := upd_same
  have hD : upd (upd H' dx (.xd [("value", v)])) a (ExZ (excA c) dx a) dx = some (.xd [("value", v)]) := by rw [upd_ne ne, upd_same]
  refine k (.ref a) F' _ ow' (R'.alloc al) (g.tr (al.grow R')) (fun z => nomatch z) ⟨rfl, (fun z => nomatch z), fun b => b = a ∨ b = dx, fun b hb => ?_, .inr (.inr (.inr (.inl ⟨c, d, rfl, rfl, a, dx, v, rfl, .inl rfl, .inr rfl, hA, hD, rv⟩)))⟩
  have nn : H' b = none := by rcases hb with rfl | rfl <;> assumption
  refine ⟨R'.free nn, R'.fh.non nn, R'.bh.non nn, ?_, fun h _ => g.dom b h nn⟩
  rcases hb with rfl | rfl
  · rw [hA]; exact fun z => nomatch z
  · rw [hD]; exact fun z => nomatch z
theorem se_newX (T : XcC KC.K fl (He.ga KC.K c)) (pf : ((X.prog.main.file : Str) == fl) = true) (pt : (X.prog.main.scope.names.lookup ("super" : Str)).isSome = false) (sup : X.mg ("super" : Str) = none) (hr : Room (k + 1) X.A) (hg : Gl X c) (hm : X.mg c = some (.ref (He.ga KC.K c)))
    (he : SP E0 X e q ev) (hdb : (c == ("__debug__" : Str)) = false := by decide) (hs : starEach [e] X.env = (false, eval e X.env) :: starEach [] X.env := by rfl) : SE E0 X (.Call (.Name c p) [e] [] pos) false (evNewX c ev) := ⟨fun fr =>
  (pe_newX (by rw [hx.eq]; exact T) pf pt sup hr hg hm (he.pe fr) hdb hs).weak fun σ H Q h => newX_core h⟩
theorem se_newXK (T : XcC KC.K fl (He.ga KC.K c)) (pf : ((X.prog.main.file : Str) == fl) = true) (pt : (X.prog.main.scope.names.lookup ("super" : Str)).isSome = false) (sup : X.mg ("super" : Str) = none) (hr : Room (k + 1) X.A) (hg : Gl X c) (hm : X.mg c = some (.ref (He.ga KC.K c)))
    (he : SP E0 X e q ev) (hdb : (c == ("__debug__" : Str)) = false := by decide) : SE E0 X (.Call (.Name c p) [] [⟨some "value", e, kp⟩] pos) false (evNewX c ev) := ⟨fun fr =>
  (pe_newXK (by rw [hx.eq]; exact T) pf pt sup hr hg hm (he.pe fr) hdb).weak fun σ H Q h => newX_core h⟩
end
end IX
namespace IX
open PySem
theorem e_newX {c : Str} {ev : EvB} {env : SEnv} : evNewX c ev env = (ev env).map fun q => (.ext false 4 (exS c q.1), q.2) := rfl
end IX

/-! text IX57 -/
set_option maxHeartbeats 1000000
/-! Targets with a star: a, .., *b, .., c = e, e a list or a tuple; the starred name holds a list as data. -/
namespace IX
section
open PySem PySem.W PyProof.Rows
variable {prog : Program} {w : World} {A : Around} {E : Value → Shared → Prop} {s : Shared}
theorem starL {l : Addr} {items : Array Value} {n i : Nat} {Q : List Value → Shared → Prop} (hl : s.heap.IsList l items) (hh : A.handled = none) (hi : i < n) (hn : n ≤ items.size + 1) (hz : items.size ≤ sizeLine)
    (h : ∀ D h' tk, (∀ b o, s.heap.get? b = some o → h'.get? b = some o) → s.heap.get? D = none → h'.get? D = some (listOf ((items.toList.drop i).take (items.size + 1 - n)).toArray 0) → Q (items.toList.take i ++ [.ref D] ++ (items.toList.drop i).drop (items.size + 1 - n)) { s with heap := h', toks := tk }) : wpAny (model prog w) A (unpackItems (.ref l) n (some i)) Q E s := by
  have hlt : l ≠ s.heap.objs.size := by obtain ⟨o, ho, _⟩ := hl; exact Nat.ne_of_lt (Heap.lt_size ho)
  unfold unpackItems
  refine wpAny_bind ?_
  unfold notIterableAtAll
  refine wpAny_bind (wpAny_specialOf hl.typeIs slot_list_iter.lookup ?_)
  refine wpAny_pure ?_
  simp only [Bool.false_eq_true, if_false]
  refine wpAny_bind (wpAny_holding (wpAny_pyIter_list hl ?_))
  refine wpAny_bind (wpAny_holding (kun_draw hlt i 0 _ _ ⟨_, Heap.get?_push_size _ rfl, rfl, rfl⟩ (hl.push _) (by omega) fun h₁ hit₁ hs₁ => ?_))
  have hl₁ : h₁.IsList l items := (hl.push _).extBut hs₁.extBut hlt
  rw [Nat.zero_add] at hit₁
  have hit₁' := hit₁
  obtain ⟨oi, hoi, _⟩ := hit₁'
  have hl₁' := hl₁
  obtain ⟨ol, hol, _⟩ := hl₁'
  rw [List.drop_zero]
  have hfl : (items.toList.take i).length = i := by rw [List.length_take, Array.length_toList]; omega
  rw [if_neg (show ¬ ((items.toList.take i).length < i) by rw [hfl]; omega)]
  refine wpAny_bind (wpAny_holding (kun_collect (s := { s with heap := h₁ }) (T := "list_iterator") (.inr (.inr (.inl rfl))) (Walks.list (A := A.in1) hh s.heap.objs.size l hlt items) (fun j u st => st.1.typeIs) (k := i) (by omega) ⟨hit₁, hl₁⟩ (Heap.lt_size hoi) (Heap.lt_size hol) (fun h₂ tk hk => ?_) hz))
  have hrl : (items.toList.drop i).length = items.size - i := by rw [List.length_drop, Array.length_toList]
  have hmid : (items.toList.drop i).length - (n - 1 - i) = items.size + 1 - n := by rw [hrl]; omega
  show wpAny _ _ (if (items.toList.drop i).length < n - 1 - i then _ else _) _ _ _
  rw [if_neg (by rw [hrl]; omega)]
  show wpAny _ _ (newList ((items.toList.drop i).take ((items.toList.drop i).length - (n - 1 - i))) >>= fun d => pure (items.toList.take i ++ [d] ++ (items.toList.drop i).drop ((items.toList.drop i).length - (n - 1 - i)))) _ _ _
  rw [hmid]
  have he : ∀ b o, s.heap.get? b = some o → h₂.get? b = some o := fun b o e => hk b o (Nat.ne_of_lt (Heap.lt_size e)) (hs₁.extBut b o (Nat.ne_of_lt (Heap.lt_size e)) (Heap.get?_push_of_some _ e))
  have hsz : s.heap.get? h₂.objs.size = none := by
    cases z : s.heap.get? h₂.objs.size with
    | none => rfl
    | some o => exact absurd (Heap.lt_size (he _ _ z)) (Nat.lt_irrefl _)
  refine wpAny_bind (wpAny_newObj_type (wpAny_pure ?_) (by show (List.toArray _).size ≤ sizeLine; rw [List.size_toArray, List.length_take, hrl]; omega))
  exact h h₂.objs.size _ _ (fun b o e => Heap.get?_push_of_some _ (he b o e)) hsz (Heap.get?_push_size _ rfl)
theorem starT {l : Addr} {items : Array Value} {n i : Nat} {Q : List Value → Shared → Prop} (hl : IsTup s.heap l items) (hh : A.handled = none) (hi : i < n) (hn : n ≤ items.size + 1) (hz : items.size ≤ sizeLine)
    (h : ∀ D h' tk, (∀ b o, s.heap.get? b = some o → h'.get? b = some o) → s.heap.get? D = none → h'.get? D = some (listOf ((items.toList.drop i).take (items.size + 1 - n)).toArray 0) → Q (items.toList.take i ++ [.ref D] ++ (items.toList.drop i).drop (items.size + 1 - n)) { s with heap := h', toks := tk }) : wpAny (model prog w) A (unpackItems (.ref l) n (some i)) Q E s := by
  have hlt : l ≠ s.heap.objs.size := by obtain ⟨o, ho, _⟩ := hl; exact Nat.ne_of_lt (Heap.lt_size ho)
  unfold unpackItems
  refine wpAny_bind ?_
  unfold notIterableAtAll
  refine wpAny_bind (wpAny_specialOf hl.typeIs slot_tuple_iter.lookup ?_)
  refine wpAny_pure ?_
  simp only [Bool.false_eq_true, if_false]
  refine wpAny_bind (wpAny_holding (iter_tuple hl ?_))
  refine wpAny_bind (wpAny_holding (draw_tuple hlt i 0 _ _ ⟨_, Heap.get?_push_size _ rfl, rfl, rfl⟩ (hl.push _) (by omega) fun h₁ hit₁ hs₁ => ?_))
  have hl₁ : IsTup h₁ l items := (hl.push _).extBut hs₁.extBut hlt
  rw [Nat.zero_add] at hit₁
  have hit₁' := hit₁
  obtain ⟨oi, hoi, _⟩ := hit₁'
  have hl₁' := hl₁
  obtain ⟨ol, hol, _⟩ := hl₁'
  rw [List.drop_zero]
  have hfl : (items.toList.take i).length = i := by rw [List.length_take, Array.length_toList]; omega
  rw [if_neg (show ¬ ((items.toList.take i).length < i) by rw [hfl]; omega)]
  refine wpAny_bind (wpAny_holding (kun_collect (s := { s with heap := h₁ }) (T := "tuple_iterator") (.inr (.inr (.inr rfl))) (Walks.tuple (A := A.in1) hh s.heap.objs.size l hlt items) (fun j u st => st.1.typeIs) (k := i) (by omega) ⟨hit₁, hl₁⟩ (Heap.lt_size hoi) (Heap.lt_size hol) (fun h₂ tk hk => ?_) hz))
  have hrl : (items.toList.drop i).length = items.size - i := by rw [List.length_drop, Array.length_toList]
  have hmid : (items.toList.drop i).length - (n - 1 - i) = items.size + 1 - n := by rw [hrl]; omega
  show wpAny _ _ (if (items.toList.drop i).length < n - 1 - i then _ else _) _ _ _
  rw [if_neg (by rw [hrl]; omega)]
  show wpAny _ _ (newList ((items.toList.drop i).take ((items.toList.drop i).length - (n - 1 - i))) >>= fun d => pure (items.toList.take i ++ [d] ++ (items.toList.drop i).drop ((items.toList.drop i).length - (n - 1 - i)))) _ _ _
  rw [hmid]
  have he : ∀ b o, s.heap.get? b = some o → h₂.get? b = some o := fun b o e => hk b o (Nat.ne_of_lt (Heap.lt_size e)) (hs₁.extBut b o (Nat.ne_of_lt (Heap.lt_size e)) (Heap.get?_push_of_some _ e))
  have hsz : s.heap.get? h₂.objs.size = none := by
    cases z : s.heap.get? h₂.objs.size with
    | none => rfl
    | some o => exact absurd (Heap.lt_size (he _ _ z)) (Nat.lt_irrefl _)
  refine wpAny_bind (wpAny_newObj_type (wpAny_pure ?_) (by show (List.toArray _).size ≤ sizeLine; rw [List.size_toArray, List.length_take, hrl]; omega))
  exact h h₂.objs.size _ _ (fun b o e => Heap.get?_push_of_some _ (he b o e)) hsz (Heap.get?_push_size _ rfl)
end
section
open PySem PySem.Spec PyProof.Rows L2
theorem vals_take : ∀ (n : Nat) {vs : List V} {us : List Value}, Vals vs us → Vals (vs.take n) (us.take n)
  | 0, _, _, _ => by rw [List.take_zero, List.take_zero]; exact .nil
  | _ + 1, _, _, .nil => .nil
  | n + 1, _, _, .cons a b => .cons a (vals_take n b)
theorem vals_drop : ∀ (n : Nat) {vs : List V} {us : List Value}, Vals vs us → Vals (vs.drop n) (us.drop n)
  | 0, _, _, h => h
  | _ + 1, _, _, .nil => .nil
  | n + 1, _, _, .cons a b => vals_drop n b
variable {X : Cx}
theorem pg_star {es es' : List Expr} {k n i : Nat} {pos : Pos} {t : TGs} (hc : X.calm = true) (hh : PGs X es' t) (he : (assignEach es X.env).map (·.2) = (assignEach es' X.env).map (·.2)) (hn : (assignEach es X.env).length = n) (hs : (assignEach es X.env).findIdx? (·.1) = some i) (hi : i < n) :
    PG X (.Tuple es k pos) (fun v σ H Q => ∃ a xs, v = .ref a ∧ (SqL X.K H a xs ∨ SqT X.K H a xs) ∧ n ≤ xs.length + 1 ∧ ∀ p, H p = none → t (xs.take i ++ [.ref p] ++ (xs.drop i).drop (xs.length + 1 - n)) σ (upd H p (.lst ((xs.drop i).take (xs.length + 1 - n)))) Q) := by
  refine ⟨fun pins s σ H v u Q I r hw => ?_⟩
  obtain ⟨a, xs, e1, hq, hl, hw⟩ := hw
  subst e1
  cases r
  have fin : ∀ (its : List Value) (D : Addr) (h' : Heap) (tk : Nat), Vals xs its → xs.length ≤ sizeLine → (∀ b o, s.heap.get? b = some o → h'.get? b = some o) → s.heap.get? D = none → h'.get? D = some (PySem.W.listOf ((its.toArray.toList.drop i).take (its.toArray.size + 1 - n)).toArray 0) →
      wpAny (model X.prog X.w) X.A (assignInOrder ((assignEach es X.env).map (·.2)) (its.toArray.toList.take i ++ [.ref D] ++ (its.toArray.toList.drop i).drop (its.toArray.size + 1 - n))) (fun _ s' => ∃ σ' H', Inv X pins σ' H' s' ∧ Q σ' H') X.xe { s with heap := h', toks := tk } := fun its D h' tk rv hz kp nD aD => by
    have el : its.toArray.size = xs.length := by rw [List.size_toArray, ← rv.length]
    have et : its.toArray.toList = its := by simp
    rw [el, et] at aD ⊢
    have nH : H D = none := I.hok.gone nD
    have rm : Vals ((xs.drop i).take (xs.length + 1 - n)) ((its.drop i).take (xs.length + 1 - n)) := vals_take _ (vals_drop _ rv)
    have I1 : Inv X pins σ (upd H D (.lst ((xs.drop i).take (xs.length + 1 - n)))) { s with heap := h', toks := tk } := I.laidN kp nD nH ⟨by rw [List.length_take, List.length_drop]; omega, _, 0, rm, aD⟩
    rw [he]
    exact hh.run pins _ σ _ _ _ Q I1 (((vals_take i rv).append (.cons (show RelV (.ref D) (.ref D) from rfl) .nil)).append (vals_drop _ (vals_drop _ rv))) (hw D nH)
  rw [PyProof.Rows.assign_Tuple]
  refine wpAny_bind (wpAny_standAt ?_)
  unfold unpack
  rw [hn, hs]
  rcases hq with hq | hq
  · obtain ⟨its, rv, pl, hz⟩ := I.list hq
    have hl' : s.heap.IsList a its.toArray := by
      obtain ⟨o, m, e, c, d, q⟩ := pl
      exact ⟨o, e, c, m, q⟩
    have sz : its.toArray.size = xs.length := by rw [List.size_toArray, ← rv.length]
    exact wpAny_bind (wpAny_holding (starL hl' (I.ok.hd hc) hi (by omega) (by omega) fun D h' tk kp nD aD => fin its D h' tk rv hz kp nD aD))
  · obtain ⟨its, rv, ht, hz⟩ := I.tuple hq
    have sz : its.toArray.size = xs.length := by rw [List.size_toArray, ← rv.length]
    exact wpAny_bind (wpAny_holding (starT ht (I.ok.hd hc) hi (by omega) (by omega) fun D h' tk kp nD aD => fin its D h' tk rv hz kp nD aD))
end
section
open PySem PySem.Spec PyProof.Rows L2
variable [KC] {E : ExtK} {X : Cx} [KX X]
def gStar (i n : Nat) (h : List PyData → SEnv → Option SEnv) : PyData → SEnv → Option SEnv
  | .tuple ds, env => if n ≤ ds.length + 1 then h (ds.take i ++ [.list ((ds.drop i).take (ds.length + 1 - n))] ++ (ds.drop i).drop (ds.length + 1 - n)) env else none
  | .list ds, env => if n ≤ ds.length + 1 then h (ds.take i ++ [.list ((ds.drop i).take (ds.length + 1 - n))] ++ (ds.drop i).drop (ds.length + 1 - n)) env else none
  | _, _ => none
theorem sg_star {es es' : List Expr} {pos : Pos} {k n i : Nat} {h : List PyData → SEnv → Option SEnv} {ts : List Nat} (hc : X.calm = true) (hh : SGs E X es' ts h) (he : (assignEach es X.env).map (·.2) = (assignEach es' X.env).map (·.2) := by rfl) (hn : (assignEach es X.env).length = n := by rfl) (hs : (assignEach es X.env).findIdx? (·.1) = some i := by rfl) (hi : i < n := by decide) :
    SG E X (.Tuple es k pos) ts (gStar i n h) := ⟨fun fr => (pg_star hc (hh.pg fr) he hn hs hi).weak fun v σ H Q ⟨F, ow, env, d, env', R, r, ee, k⟩ => by
  have go : ∀ (a : Addr) (vs : List V) (ds : List PyData), (SqL X.K H a vs ∨ SqT X.K H a vs) → RpA F vs ds → n ≤ ds.length + 1 → h (ds.take i ++ [.list ((ds.drop i).take (ds.length + 1 - n))] ++ (ds.drop i).drop (ds.length + 1 - n)) env = some env' →
      ∃ a' xs, V.ref a = .ref a' ∧ (SqL X.K H a' xs ∨ SqT X.K H a' xs) ∧ n ≤ xs.length + 1 ∧ ∀ p, H p = none → TGsv E fr ts h (xs.take i ++ [.ref p] ++ (xs.drop i).drop (xs.length + 1 - n)) σ (upd H p (.lst ((xs.drop i).take (xs.length + 1 - n)))) Q := fun a vs ds hq rv hl ee => by
    refine ⟨a, vs, rfl, hq, by rw [rv.length]; exact hl, fun p hp => ?_⟩
    have al := Alloc.new (o := .lst ((vs.drop i).take (vs.length + 1 - n))) R.fh hp
    have rv2 := RpA.mono al.f _ _ rv
    have rm : RpA (upd F p (.lst ((vs.drop i).take (vs.length + 1 - n)))) ((vs.drop i).take (vs.length + 1 - n)) ((ds.drop i).take (ds.length + 1 - n)) := by rw [← rv.length]; exact (rv2.drop i).take _
    have rl : RpA (upd F p (.lst ((vs.drop i).take (vs.length + 1 - n)))) ((vs.drop i).drop (vs.length + 1 - n)) ((ds.drop i).drop (ds.length + 1 - n)) := by rw [← rv.length]; exact (rv2.drop i).drop _
    exact ⟨_, ow, env, _, env', R.alloc al, ((rv2.take i).append (.cons (.lst upd_same rm) .nil)).append rl, ee, fun F' H' ow' σ' R' g hh => k F' H' ow' σ' R' ((al.grow R).tr g) hh⟩
  unfold gStar at ee
  cases d with
  | tuple ds =>
    dsimp only at ee
    split at ee
    · rename_i z
      cases r with
      | tup hp r => exact go _ _ _ (.inr (hp.sq R.fh)) r z ee
    · cases ee
  | list ds =>
    dsimp only at ee
    split at ee
    · rename_i z
      cases r with
      | lst hp r => exact go _ _ _ (.inl (SqL.of (R.fh _ _ hp))) r z ee
    · cases ee
  | _ => cases ee⟩
end
end IX

/-! text IX58 -/
set_option maxHeartbeats 1000000
/-! A name that holds None or an exception: x is None, x is not None. -/
namespace IX
open PySem PySem.Spec PyProof.Rows L2
def evTN (neg : Bool) (i : Nat) : EvT := fun env => match env[i]? with
  | some (.pur d) => some (if neg = true then !isNonD d else isNonD d, env)
  | some (.ext _ 4 _) => some (neg, env)
  | _ => none
variable [KC]
section
variable {X : Cx} [hx : KX X] {x : Str} {i j : Nat} {p p2 pos : Pos}
theorem held_ref {fr : Fra} {F H : Hp} {ow : Ow} {env : SEnv} {σ : L2.St} {i : Nat} {b : Bool} {g : PyData} (R : Rel E0 fr F H ow env σ) (h : env[i]? = some (.ext b 4 g)) : ∃ a, σ[i]? = some (some (.ref a)) := by
  rcases R.sl i _ h with z | ⟨v, hv, hr⟩
  · cases z
  · have hr : E0.rel 4 F H (fun a => ow a = some i) v g := hr
    rcases hr with ⟨a, _, _, rfl, _⟩ | ⟨a, _, _, rfl, _⟩ | ⟨a, _, rfl, _⟩ | ⟨c', d', _, eg, a, dx, u, rfl, _⟩ | ⟨_, _, et, _⟩ | ⟨a, _, _, _, rfl, _⟩ | ⟨_, _, et, _⟩
    · exact ⟨a, hv⟩
    · exact ⟨a, hv⟩
    · exact ⟨a, hv⟩
    · exact ⟨a, hv⟩
    · cases et
    · exact ⟨a, hv⟩
    · exact absurd et (by decide)
theorem st_isNone (h : PE X (.Name x p) (tVar i)) (hm : behindInMarks .Is (.Constant .none j p2) = false := by rfl) : ST E0 X (.Compare (.Name x p) [.Is] [.Constant .none j p2] pos) true (evTN false i) := ⟨fun fr => (pt_cmpR op_isN h pe_non hm).weak fun σ H Q ⟨F, ow, env, b, env', R, ee, k⟩ => by
  unfold evTN at ee
  split at ee
  · rename_i d hi
    cases ee
    rcases R.sl i _ hi with z | ⟨v, hv, hr⟩
    · cases z
    · have hr : Rp F v d := hr
      refine ⟨v, hv, rfl, _, rfl, ?_⟩
      rw [rpl_non (F := F) (H := H) (.inl hr)]
      exact k F H ow R Grow.refl (fun _ => Ex.refl _)
  · rename_i hi
    cases ee
    obtain ⟨a, ha⟩ := held_ref R hi
    exact ⟨_, ha, rfl, _, rfl, by
      have : decide (V.ref a = .non) = false := decide_eq_false (fun z => nomatch z)
      rw [this]
      exact k F H ow R Grow.refl (fun _ => Ex.refl _)⟩
  · cases ee⟩
theorem st_notNone (h : PE X (.Name x p) (tVar i)) (hm : behindInMarks .IsNot (.Constant .none j p2) = false := by rfl) : ST E0 X (.Compare (.Name x p) [.IsNot] [.Constant .none j p2] pos) true (evTN true i) := ⟨fun fr => (pt_cmpR op_notN h pe_non hm).weak fun σ H Q ⟨F, ow, env, b, env', R, ee, k⟩ => by
  unfold evTN at ee
  split at ee
  · rename_i d hi
    cases ee
    rcases R.sl i _ hi with z | ⟨v, hv, hr⟩
    · cases z
    · have hr : Rp F v d := hr
      refine ⟨v, hv, rfl, _, rfl, ?_⟩
      rw [rpl_non (F := F) (H := H) (.inl hr)]
      exact k F H ow R Grow.refl (fun _ => Ex.refl _)
  · rename_i hi
    cases ee
    obtain ⟨a, ha⟩ := held_ref R hi
    exact ⟨_, ha, rfl, _, rfl, by
      have : decide (V.ref a = .non) = false := decide_eq_false (fun z => nomatch z)
      rw [this]
      exact k F H ow R Grow.refl (fun _ => Ex.refl _)⟩
  · cases ee⟩
end
end IX
namespace IX
open PySem
theorem e_TN {neg : Bool} {i : Nat} {env : SEnv} : evTN neg i env = (match env[i]? with
  | some (.pur d) => some (if neg = true then !isNonD d else isNonD d, env)
  | some (.ext _ 4 _) => some (neg, env)
  | _ => none) := rfl
end IX

/-! text IX59 -/
set_option maxHeartbeats 2000000
/-! {..}.get(k, -n); raising expressions: a if c else b, [a]. -/
namespace IX
open PySem PySem.Spec PyProof.Rows L2
section
variable [KC] {E : ExtK} {X : Cx} [KX X] {F H : Hp}
theorem pe_negC {n : Int} {l : Nat} {q q' : Pos} : PE X (.UnaryOp .USub (.Constant (.int n) l q) q') (tC (.int (-n))) := (pe_un un_neg pe_int).weak fun σ H Q h => ⟨n, rfl, h⟩
theorem sp_d3gN {k1 k2 k3 : Str} {v1 v2 v3 n : Int} {j1 j2 j3 l1 l2 l3 l4 : Nat} {p1 p2 p3 q1 q2 q3 q4 q5 dpos apos pos : Pos} {e : Expr} {st : Bool} {ev : EvB} (hu : X.A.units + 64 < cLine) (h12 : k1 ≠ k2) (h13 : k1 ≠ k3) (h23 : k2 ≠ k3) (h : SB E X e true st ev)
    (m : M2 X (.Dict [some (.Constant (.str k1) j1 p1), some (.Constant (.str k2) j2 p2), some (.Constant (.str k3) j3 p3)] [.Constant (.int v1) l1 q1, .Constant (.int v2) l2 q2, .Constant (.int v3) l3 q3] dpos) "get" apos e (.UnaryOp .USub (.Constant (.int n) l4 q4) q5) pos) :
    SP E X (.Call (.Attribute (.Dict [some (.Constant (.str k1) j1 p1), some (.Constant (.str k2) j2 p2), some (.Constant (.str k3) j3 p3)] [.Constant (.int v1) l1 q1, .Constant (.int v2) l2 q2, .Constant (.int v3) l3 q3] dpos) "get" apos) [e, .UnaryOp .USub (.Constant (.int n) l4 q4) q5] [] pos) true (evD3g k1 k2 k3 v1 v2 v3 (-n) ev) := ⟨fun fr =>
  (pe_dget2 (by omega) (pe_disp (pps_cons pe_str pe_int (pps_cons pe_str pe_int (pps_cons pe_str pe_int pps_nil))) rfl rfl (by simp) (by simp)) (h.pe fr) (pe_negC (n := n)) m).weak fun σ H Q ⟨F, ow, env, d, env', R, ee, k⟩ => by
    intro p hp
    refine ⟨upd_same, [(.inr k1, .int v1), (.inr k2, .int v2), (.inr k3, .int v3)], rfl, by simp, ?_⟩
    rw [d3_merge h12 h13 h23]
    have ud : ∀ a b : HO, upd (upd H p a) p b = upd H p b := fun a b => by funext x; unfold upd; split <;> rfl
    rw [ud]
    unfold evD3g at ee
    split at ee
    · rename_i z e1 g1
      cases ee
      have al : Alloc F H F (upd H p (.dK [(.inr k1, .int v1), (.inr k2, .int v2), (.inr k3, .int v3)])) := Alloc.tmp R.fh hp
      refine ⟨p, rfl, .inl ⟨_, .inl upd_same⟩, F, ow, env, .str z, _, R.alloc al, g1, fun v F' H' ow' R' g hq rv => ⟨_, .inl ⟨_, .inr z, .inl (hq rfl _ _ upd_same), rv.l.str, rfl⟩, ?_⟩⟩
      have kk := fun i : Int => k (.int i) F' H' ow'
      have ev : ((valV ([(.inr k1, .int v1), (.inr k2, .int v2), (.inr k3, .int v3)] : List (Key × V)) (.inr z)).getD (.int (-n))) = V.int (if z = k1 then v1 else if z = k2 then v2 else if z = k3 then v3 else (-n)) := by
        by_cases c1 : z = k1
        · rw [valV_pos (by rw [c1]), if_pos c1]; rfl
        · rw [valV_neg (fun e => c1 (Sum.inr.inj e).symm), if_neg c1]
          by_cases c2 : z = k2
          · rw [valV_pos (by rw [c2]), if_pos c2]; rfl
          · rw [valV_neg (fun e => c2 (Sum.inr.inj e).symm), if_neg c2]
            by_cases c3 : z = k3
            · rw [valV_pos (by rw [c3]), if_pos c3]; rfl
            · rw [valV_neg (fun e => c3 (Sum.inr.inj e).symm), if_neg c3]; rfl
      rw [ev]
      exact k _ F' H' ow' R' ((al.grow R).tr g) (fun _ => al.h.tr (hq rfl)) (.int _)
    · cases ee⟩
end
section
variable [KC] {E : ExtK} {W : WX} {X : Cx} [KX X] {c a b e : Expr} {pos : Pos}
theorem re_if {qt : Bool} {evt : EvT} {eva evb : EvE} (ht : ST E X c qt evt) (ha : RE E W X a eva) (hb : RE E W X b evb) : RE E W X (.IfExp c a b pos) (evIf evt eva evb) := ⟨fun fr => (pe_ifExp (ht.pt fr) (ha.pe fr) (hb.pe fr)).weak fun σ H Q ⟨F, ow, env, r, env', R, ee, k⟩ => by
  obtain ⟨⟨c, e1⟩, h1, h⟩ := bind2 ee
  refine ⟨F, ow, env, c, e1, R, h1, fun F' H' ow' R' g hq => ?_⟩
  cases c with
  | true => exact iteT ⟨F', ow', e1, r, env', R', h, fun v F2 H2 ow2 R2 g2 rs => k v F2 H2 ow2 R2 (g.tr g2) (rs.start g)⟩
  | false => exact iteF ⟨F', ow', e1, r, env', R', h, fun v F2 H2 ow2 R2 g2 rs => k v F2 H2 ow2 R2 (g.tr g2) (rs.start g)⟩⟩
/-- [e], e may raise -/
def evL1 (ev : EvE) : EvE := fun env => (ev env).bind fun p => match p.1 with
  | .pur d => some (.own false [d], p.2)
  | .own false ds => some (.own false [.list ds], p.2)
  | .ext false 5 g => if (Slot.ext false 5 g).exc.isSome = true then some (.ext false 5 g, p.2) else none
  | _ => none
theorem re_lst1 {ev : EvE} (h : RE E W X e ev) (hs : starEach [e] X.env = (false, eval e X.env) :: starEach [] X.env := by rfl) : RE E W X (.List [e] pos) (evL1 ev) := ⟨fun fr => (pe_lst (pa_cons (h.pe fr) pa_nil hs)).weak fun σ H Q ⟨F, ow, env, r, env', R, ee, k⟩ => by
  obtain ⟨⟨r0, e1⟩, h1, ee⟩ := bind2 ee
  have mk : ∀ (x : V) (F' H' : Hp) (ow' : Ow) (d : PyData), Rel E fr F' H' ow' e1 σ → Grow F H ow F' H' ow' → Rp F' x d → (∀ v F2 H2 ow2, Rel E fr F2 H2 ow2 e1 σ → Grow F H ow F2 H2 ow2 → Res E fr H ow F2 H2 ow2 v (.own false [d]) → Q v H2) →
      [x].length ≤ sizeLine ∧ ∀ p, H' p = none → Q (.ref p) (upd H' p (.lst [x])) := fun x F' H' ow' d R' g rx kk => ⟨by rw [sizeLine_eq]; show 1 ≤ 16777216; decide, fun p hp => by
    have al : Alloc F' H' F' (upd H' p (.lst [x])) := Alloc.tmp R'.fh hp
    exact kk (.ref p) F' _ ow' (R'.alloc al) (g.tr (al.grow R')) ⟨rfl, (fun z => nomatch z), fun a => a = p, fun a ha => by
      subst ha
      exact ⟨R'.free hp, R'.fh.non hp, R'.bh.non hp, by rw [upd_same]; exact (fun z => nomatch z), fun h _ => g.dom a h hp⟩, ⟨p, [x], rfl, rfl, upd_same, .cons rx .nil⟩⟩⟩
  dsimp only at ee
  split at ee
  · rename_i d
    cases ee
    refine ⟨F, ow, env, _, _, R, h1, fun v F' H' ow' R' g rs => ?_⟩
    rw [endR_none rfl]
    obtain ⟨_, _, S, _, hs⟩ := rs
    exact mk v F' H' ow' d R' g hs fun v F2 H2 ow2 R2 g2 r2 => by have := k v F2 H2 ow2 R2 g2 r2; rwa [endR_none rfl] at this
  · rename_i ds
    cases ee
    refine ⟨F, ow, env, _, _, R, h1, fun v F' H' ow' R' g rs => ?_⟩
    rw [endR_none rfl]
    obtain ⟨_, _, S, hS, p, vs, rfl, sp, hp, r⟩ := rs
    obtain ⟨n, f, b, _, nw⟩ := hS p sp
    exact mk _ _ _ _ (.list ds) (R'.freeze n f b hp) (g.freeze f nw) (.lst upd_same (RpA.mono (Ex.new f) _ _ r)) fun v F2 H2 ow2 R2 g2 r2 => by have := k v F2 H2 ow2 R2 g2 r2; rwa [endR_none rfl] at this
  · rename_i g0
    split at ee
    · rename_i z
      cases ee
      refine ⟨F, ow, env, _, _, R, h1, fun v F' H' ow' R' g rs => ?_⟩
      have := k v F' H' ow' R' g rs
      obtain ⟨q, hq⟩ := Option.isSome_iff_exists.mp z
      rw [endR_some hq] at this ⊢
      exact this
    · cases ee
  · cases ee⟩
end
end IX

/-! text IX60 -/
set_option maxHeartbeats 1000000
/-! Defs that may raise, their exceptions told with no context (L2N): what a try whose suite raises from None may call. -/
namespace IX
open PySem PySem.Spec PyProof.Rows L2
variable [KC]
section
variable {P : Program} {w : World} {K : PySem.W.Frag} {mg : Str → Option Value} {base : Heap} {E : ExtK}
theorem def_okR_N {x qual : Str} {params : Arguments} {body : List Stmt} {scope : Scope} {dvs : List V} {kws : List (Str × V)} {f : Addr} {fd : FuncData} {N ps : List Str} {k n : Nat} {xb : EvS} (F : FunD K x qual params body scope dvs kws f fd) (S : FnScope N ps scope) (hn : ps.length = n)
    (hb : ∀ (cdv : Value) (A : Around) (outer : List Env) (s : Shared) (H : Hp) (XE : XK) (W : WX), Room k (A.deeper (envOfC qual scope s.heap.objs.size f cdv)) → NoRep A → L2N.Takes (cxOf (L2N.CX P w) P w K mg base N qual scope f cdv A outer s H XE) W → PassesOwn (model P w) (cxOf (L2N.CX P w) P w K mg base N qual scope f cdv A outer s H XE).A (cxOf (L2N.CX P w) P w K mg base N qual scope f cdv A outer s H XE).env (cxOf (L2N.CX P w) P w K mg base N qual scope f cdv A outer s H XE).xe →
      RSs E W (cxOf (L2N.CX P w) P w K mg base N qual scope f cdv A outer s H XE) body xb) :
    FnG P w K mg base (L2N.CX P w) (k + 1) f fd ps (spR E (runDef N.length xb) n) := by
  refine fnG_of F S (fun vs H Q XE z => z.1.trans hn.symm) fun cdv A outer s H vs Q XE hr nr h => ?_
  obtain ⟨hl, F0, B, ow, args, r, outs, fh, bh, sep, la, ha, hf, k⟩ := h
  let fr : Fra := ⟨F0, H, B, vs⟩
  refine ⟨TSw E fr (fun c d _ H => XE c d H) xb, (hb cdv A outer s H XE _ hr nr (L2N.takes_of rfl rfl rfl rfl) (passes_of rfl)).ps fr, ?_⟩
  have nl : n ≤ N.length := by have := congrArg List.length S.pre; rw [List.length_take] at this; omega
  have R : Rel E fr F0 H ow (args ++ List.replicate (N.length - args.length) .und) (L2.start N vs) := by
    refine ⟨fh, Ex.refl _, bh, fun _ _ _ => rfl, fun _ h => h, sep, ?_, fun i s e => ?_, fun i s e p => ?_⟩
    · unfold L2.start
      rw [List.length_append, List.length_append, List.length_replicate, List.length_replicate, List.length_map]
      omega
    · by_cases hi : i < args.length
      · rw [List.getElem?_append_left hi] at e
        obtain ⟨_, v, hv, hs⟩ := ha i s e
        refine .inr ⟨v, ?_, hs⟩
        unfold L2.start
        rw [List.getElem?_append_left (by rw [List.length_map]; omega), List.getElem?_map, hv]
        rfl
      · rw [List.getElem?_append_right (by omega), List.getElem?_replicate] at e
        split at e
        · cases e; exact .inl rfl
        · cases e
    · by_cases hi : i < args.length
      · rw [List.getElem?_append_left hi] at e
        obtain ⟨_, v, hv, hs⟩ := ha i s e
        refine ⟨v, hv, ?_⟩
        unfold L2.start
        rw [List.getElem?_append_left (by rw [List.length_map]; omega), List.getElem?_map, hv]
        rfl
      · rw [List.getElem?_append_right (by omega), List.getElem?_replicate] at e
        split at e
        · cases e; cases p
        · cases e
  have fin : ∀ {F' H' ow' σ' e' v r}, Rel E fr F' H' ow' e' σ' → Ex F0 F' → outsOf args e' = some outs → r.par = false → r ≠ .und → (∃ S : Addr → Prop, (∀ a, S a → ow' a = none ∧ F' a = none ∧ B a = none ∧ H' a ≠ none) ∧ Sl E F' H' S v r) → Ret E F0 H B vs outs F' H' ow' v r := fun {F' H' ow' σ' e' v r} R' f ho np nu rs =>
    ⟨R'.fh, f, R'.bh, R'.fb, R'.dom, R'.sep, fun i s e p => by
      have ee := outsOf_get ho e p
      obtain ⟨v, h1, h2⟩ := R'.pr i s ee p
      rcases R'.sl i s ee with z | ⟨v', h3, h4⟩
      · subst z; cases p
      · rw [h2] at h3; cases h3; exact ⟨v, h1, h4⟩, np, nu, rs⟩
  unfold runDef at hf
  split at hf
  · rename_i r' e' hx
    obtain ⟨os, h1, h2⟩ := Option.map_eq_some_iff.mp hf
    cases h2
    exact ⟨F0, ow, _, _, R, hx, fun v F' H' ow' σ' H0 ow0 R' f rs => k v F' H' ow' (fin R' f h1 rs.1 rs.2.1 (by
      obtain ⟨_, _, S, hS, hs⟩ := rs
      exact ⟨S, fun a sa => ⟨(hS a sa).1, (hS a sa).2.1, (hS a sa).2.2.1, (hS a sa).2.2.2.1⟩, hs⟩))⟩
  · rename_i e' hx
    obtain ⟨os, h1, h2⟩ := Option.map_eq_some_iff.mp hf
    cases h2
    exact ⟨F0, ow, _, _, R, hx, fun F' H' ow' σ' R' f => k .non F' H' ow' (fin R' f h1 rfl (fun z => nomatch z) ⟨fun _ => False, fun _ z => z.elim, .non⟩)⟩
  · cases hf
end
/-- a def that may raise, and may be called by its name -/
structure FnER_N (E : ExtK) (P : Program) (w : World) (K : PySem.W.Frag) (mg : Str → Option Value) (base : Heap) (k : Nat) (x : Str) (params : Arguments) (body : List Stmt) (scope : Scope) (ps : List Str) (f : FSem) : Prop where
  ex : ∃ (fA : Addr) (fd : FuncData), FnG P w K mg base (L2N.CX P w) k fA fd ps (spR E f ps.length) ∧ mg x = some (.ref fA) ∧ FunD K x x params body scope [] [] fA fd
  bd : ∀ (kV doc pm : Value) (an : Option Addr) (cdv ct : Value) (us : List Value), us.length = ps.length → bindArgs (PySem.W.fnOf x x params body scope .none kV doc pm an cdv ct) ⟨us, []⟩ = pure (ps.zip us)
section
variable {X : Cx} {W : WX} {k n : Nat} {f : Addr} {fd : FuncData} {ps ks : List Str} {sp : Sp} {x : Str} {p pos : Pos} {e : Expr} {es : List Expr} {kws : List Keyword} {t tk : TA} {pins : List (Addr × Obj)} {σ : L2.St} {H : Hp} {s : Shared} {Q : VK} {us us' : List Value} {vs : List V} {kw : List (Str × Value)}
theorem run_R_N (F : FnG X.prog X.w X.K X.mg X.base (L2N.CX X.prog X.w) k f fd ps sp) (nr : NoRep X.A) (room : Room k X.A) (tk : L2N.Takes X W) (inv : Inv X pins σ H s) (bt : BindsTo s fd ⟨us, kw⟩ (ps.zip us')) (rv : Vals vs us') (want : sp vs H Q fun c d H' => W c d σ H') :
    wpAny (model X.prog X.w) X.A (PySem.call (.ref f) us kw) (EP X pins σ Q) X.xe s := by
  refine wpAny_call (codeAny_mono (F.go X.A X.stack s H ⟨us, kw⟩ us' vs Q _ nr room inv.env0 bt rv want) fun r s2 h2 => ?_)
  rcases r with e2 | (v2 | _ | _ | _)
  · exact tk _ _ (L2N.XE.of_call inv (fun _ _ _ h => h) h2)
  all_goals first | exact inv.after h2 | exact h2.elim
theorem peR_N (F : FnG X.prog X.w X.K X.mg X.base (L2N.CX X.prog X.w) k f fd ps sp) (nr : NoRep X.A) (room : Room k X.A) (gl : Gl X x) (at_ : X.mg x = some (.ref f)) (kp : PySem.W.keepIn X.K (.ref f) = true) (hb : Binds X.K fd ps []) (tk : L2N.Takes X W) (ha : PA X (e :: es) t)
    (hdb : (x == ("__debug__" : Str)) = false) (he : starEach (e :: es) X.env = (false, eval e X.env) :: starEach es X.env) (hpl : (backTo pos (starEach es X.env)).any (·.1) = false) :
    PE X (.Call (.Name x p) (e :: es) [] pos) (fun σ H Q => t σ H fun vs H1 => sp vs H1 Q fun c d H' => W c d σ H') :=
  ⟨fun pins s σ H Q inv want => wpAny_Call_Name_kw (ld_glob inv gl at_ (PySem.W.callWith_K (h₀ := X.base) inv.ok.mod.kin kp (thn (ha.run pos pins s σ H _ inv want) fun us s1 ⟨vs, H1, i1, rv, q⟩ =>
    ⟨i1.kIn, run_R_N F nr room tk i1 (binds_all hb i1 (rv.length.symm.trans (F.cnt _ _ _ _ q))) rv q⟩) he hpl) hdb)⟩
theorem peR0_N (F : FnG X.prog X.w X.K X.mg X.base (L2N.CX X.prog X.w) k f fd ps sp) (nr : NoRep X.A) (room : Room k X.A) (gl : Gl X x) (at_ : X.mg x = some (.ref f)) (kp : PySem.W.keepIn X.K (.ref f) = true) (hb : Binds X.K fd ps []) (tk : L2N.Takes X W)
    (hdb : (x == ("__debug__" : Str)) = false) : PE X (.Call (.Name x p) [] [] pos) (fun σ H Q => sp [] H Q fun c d H' => W c d σ H') :=
  ⟨fun pins s σ H Q inv want => wpAny_Call_Name_kw (ld_glob inv gl at_ (PySem.W.callWith_K0 inv.kIn kp (run_R_N (us := []) (vs := []) F nr room tk inv (binds_all hb inv (by have := F.cnt _ _ _ _ want; simpa using this)) .nil want)) hdb)⟩
end
section
variable {E : ExtK} {W : WX} {X : Cx} [KX X] {e : Expr} {es : List Expr} {p pos : Pos} {k j : Nat} {x : Str} {params : Arguments} {body : List Stmt} {scope : Scope} {ps : List Str} {f : FSem}
variable {F H : Hp} {σ : L2.St} {vs : List V} {as : List Arg}
theorem re_call_N {q br : Bool} {ev : EvR} (F : FnER_N E X.prog X.w X.K X.mg X.base k x params body scope ps f) (nr : NoRep X.A) (hr : Room j X.A) (hk : k ≤ j) (hg : Gl X x) (tk : L2N.Takes X W) (ha : SAr E X (e :: es) q br ev) (hl : (e :: es).length = ps.length) (hev : ∀ env as env', ev env = some (as, env') → as.length = (e :: es).length)
    (hdb : (x == ("__debug__" : Str)) = false := by decide) (he : starEach (e :: es) X.env = (false, eval e X.env) :: starEach es X.env := by rfl) (hpl : (backTo pos (starEach es X.env)).any (·.1) = false := by rfl) :
    RE E W X (.Call (.Name x p) (e :: es) [] pos) (evCall f ev) := ⟨fun fr => by
  obtain ⟨fA, fd, F1, hm, FD⟩ := F.ex
  refine (peR_N (F1.mono hk) nr hr hg hm FD.kp (FD.bindsN F.bd) tk (ha.pa fr) hdb he hpl).weak fun σ H Q ⟨F, ow, env, r, env', R, ee, k⟩ => ?_
  obtain ⟨as, e1, ss, outs, h1, h2, h3, h4, h5⟩ := evCall_some ee
  refine ⟨F, ow, env, as, e1, R, h1, fun vs F' H' ow' R' g hq aok => ?_⟩
  exact call_coreR (br := br) R' g hq aok ((hev _ _ _ h1).trans hl) h2 h3 h4 h5 (fun z => ha.nb z _ _ _ h1) fun v F2 H2 ow2 R2 g2 _ rs => k v F2 H2 ow2 R2 g2 rs⟩
end
/-! ### raise -/
section
variable {W : WX} {X : Cx} [hx : KX X] {fl c : Str} {x : Str} {p pos pos' : Pos} {e : Expr}
theorem pmk_xc_N {te : TE} {C : Addr} (T : XcC X.K fl C) (pf : ((X.prog.main.file : Str) == fl) = true) (pt : (X.prog.main.scope.names.lookup ("super" : Str)).isSome = false) (sup : X.mg ("super" : Str) = none) {k : Nat} (hr : Room (k + 1) X.A) (hg : Gl X x) (hm : X.mg x = some (.ref C)) (he : PE X e te)
    (hdb : (x == ("__debug__" : Str)) = false := by decide) (hs : starEach [e] X.env = (false, eval e X.env) :: starEach [] X.env := by rfl) :
    L2N.PMk X (.Call (.Name x p) [e] [] pos) (fun σ H Q => te σ H fun v H1 => ∀ dx, H1 dx = none → Q (.ref C) (some dx) (upd H1 dx (.xd [("value", v)]))) := by
  intro pins s σ H Q I h
  refine wpAny_Call_Name_kw (ld_glob I hg hm ?_ hdb)
  refine PySem.W.callWith_K (h₀ := X.base) I.ok.mod.kin T.o.kC ?_ hs (by rfl)
  rw [hs]
  show wpAny _ _ (spliced ((false, eval e X.env) :: backTo pos (starEach [] X.env))) _ _ s
  refine Calls.spliced_cons (thn (he.run pins s σ H _ I h) fun u s1 ⟨v, H1, I1, r1, q1⟩ => ?_)
  refine Calls.spliced_nil ⟨I1.kIn, ?_⟩
  show wpAny _ _ (call (.ref C) [u]) _ _ _
  refine xc_made T pf pt sup hr I1 r1 fun a dx t1 G h2 tk nd na ne J kk ga ha => ?_
  exact ⟨a, _, _, { s1 with heap := G, toks := tk }, _, .ref C, some dx, rfl, J, kk, ga, ha, ⟨rfl, rfl, fun vs q => by cases q; rfl⟩, rfl, rfl, by rw [upd_ne ne.symm]; exact na, rfl, J.bare, raises_own T.o.exC T.o.tyC, q1 dx nd⟩
/-- raise C(e) -/
theorem rs_raise_N {q : Bool} {ev : EvB} {k : Nat} (hc : X.calm = true) (T : XcC KC.K fl (He.ga KC.K c)) (pf : ((X.prog.main.file : Str) == fl) = true) (pt : (X.prog.main.scope.names.lookup ("super" : Str)).isSome = false) (sup : X.mg ("super" : Str) = none) (hr : Room (k + 1) X.A) (hg : Gl X c) (hm : X.mg c = some (.ref (He.ga KC.K c))) (tk : L2N.Takes X W)
    (he : SP E0 X e q ev) (hdb : (c == ("__debug__" : Str)) = false := by decide) (hs : starEach [e] X.env = (false, eval e X.env) :: starEach [] X.env := by rfl) : RS E0 W X (.Raise (some (.Call (.Name c p) [e] [] pos)) none pos') (xRaise c ev) := ⟨fun fr => by
  refine (L2N.ps_raise hc tk (pmk_xc_N (by rw [hx.eq]; exact T) pf pt sup hr hg hm (he.pe fr) hdb hs)).weak fun D σ H ⟨F, ow, env, o, R, ee, k⟩ => ?_
  obtain ⟨⟨d, e1⟩, h1, ee⟩ := Option.map_eq_some_iff.mp ee
  cases ee
  refine ⟨F, ow, env, d, e1, R, h1, fun v F' H' ow' R' g hq rv dx nd => ?_⟩
  have al : Alloc F' H' F' (upd H' dx (.xd [("value", v)])) := Alloc.tmp R'.fh nd
  have sd : upd H' dx (.xd [("value", v)]) dx ≠ none := by rw [upd_same]; exact fun z => by cases z
  exact k (.ref dx) F' _ ow' σ (fun _ => none) ow' (R'.alloc al) g.f ⟨rfl, (fun z => nomatch z), fun a => a = dx, fun a ha => (by
    subst ha
    exact ⟨R'.free nd, R'.fh.non nd, R'.bh.non nd, sd, fun z => absurd rfl z⟩), .inr (.inr (.inr (.inr (.inl ⟨c, d, rfl, rfl, dx, v, rfl, rfl, upd_same, rv⟩))))⟩ dx rfl⟩
end
end IX

/-! text IX61 -/
set_option maxHeartbeats 1000000
/-! try: .. except C: raise D(e) from None. -/
namespace IX
open PySem PySem.Spec PyProof.Rows L2
section
variable {X : Cx} {fl : Str} {C : Addr} {x : Str} {p pos : Pos} {e : Expr} {te : TE}
theorem xc_madeD (T : XcC X.K fl C) (pf : ((X.prog.main.file : Str) == fl) = true) (pt : (X.prog.main.scope.names.lookup ("super" : Str)).isSome = false) (sup : X.mg ("super" : Str) = none) (hdp : X.A.depth + 8 < recursionLimit) {pins : List (Addr × Obj)} {σ : L2.St} {H1 : Hp} {s1 : Shared} {v : V} {u : Value} (I1 : Inv X pins σ H1 s1) (rv : RelV v u)
    {R : Value → Shared → Prop} {E : Value → Shared → Prop}
    (go : ∀ (a dx t1 : Addr) (G h2 : Heap) (tk : Nat), H1 dx = none → H1 a = none → dx ≠ a → Inv X pins σ (upd H1 dx (.xd [("value", v)])) { s1 with heap := G, toks := tk } → (∀ b o, G.get? b = some o → h2.get? b = some o) → G.get? a = none → h2.get? a = some { cls := .ref C, dict := some dx, data := .fields #[.ref t1, .none, .none, .none, .bool false, .none] } →
      R (.ref a) { s1 with heap := h2, toks := tk }) :
    wpAny (model X.prog X.w) X.A (PySem.call (.ref C) [u]) R E s1 := by
  obtain ⟨fI, init, tyI, run⟩ := xc_init (w := X.w) T pf pt
  obtain ⟨nm, qn, Nn, bs, bm, sn, sub, ab, col, dd, k0, k1, k2, k3, k5, hC, hbm⟩ := T.o.cls
  obtain ⟨hp, g, d, t, os⟩ := s1
  obtain ⟨mb, bns, bb⟩ := I1.mod.blt
  have KIn : X.K.In hp := I1.kIn
  let h1 : Heap := (hp.push (PySem.W.kdv_tup [u])).push (HandSPX.excO C hp.objs.size)
  have up : ∀ b o, hp.get? b = some o → h1.get? b = some o := fun b o z => Heap.get?_push_of_some _ (Heap.get?_push_of_some _ z)
  have at_ : h1.get? (hp.objs.size + 1) = some (HandSPX.excO C hp.objs.size) := by show ((hp.push (PySem.W.kdv_tup [u])).push (HandSPX.excO C hp.objs.size)).get? _ = _; heap_get
  have fresh : ∀ {b : Addr}, hp.objs.size ≤ b → H1 b = none := fun z => I1.hok.fresh z
  have nK : X.K.lookup (hp.objs.size + 1) = none := by
    cases z : X.K.lookup (hp.objs.size + 1) with
    | none => rfl
    | some o => exact absurd (Heap.lt_size (KIn _ _ z)) (by show ¬ hp.objs.size + 1 < hp.objs.size; omega)
  refine wpAny_call (HandSPX.call_own F.excBase_ValueError (fun Y => HandSPX.refsVE_contains Y bm hbm) (KIn _ _ hC) (PySem.W.looks_findIn KIn init) (fun self => PySem.W.bind_fn KIn self tyI) (by rw [sizeLine_eq]; show 1 ≤ 16777216; decide) ?_)
  refine run _ h1 g d t os X.mg mb (hp.objs.size + 1) hp.objs.size u _ _ (KIn.keeps up) nK (I1.nolimit.keeps up) ((I1.mod.glob.keeps I1.bk).keeps up) sup ((bns.keeps I1.bk).keeps up) ((bb _ (by decide)).trans (by decide +kernel)) (by rw [make_depth]; omega) at_ (.inl rfl) fun h2 tk dx t1 k2 dn dne hx hn => ?_
  have far : hp.objs.size ≤ dx := by
    have : h1.objs.size = hp.objs.size + 2 := by show (((hp.push _).push _).objs.size) = _; rw [Heap.size_push, Heap.size_push]
    omega
  obtain ⟨G, g1, g2⟩ := restrict h2 fun b => decide (b ≠ hp.objs.size + 1)
  have gk : ∀ b, b ≠ hp.objs.size + 1 → G.get? b = h2.get? b := fun b hb => g1 b (decide_eq_true hb)
  have keep : ∀ b o, hp.get? b = some o → G.get? b = some o := fun b o z => by
    have nb : b ≠ hp.objs.size + 1 := Nat.ne_of_lt (Nat.lt_of_lt_of_le (Heap.lt_size z) (Nat.le_succ _))
    rw [gk b nb]
    exact k2 b o nb (up b o z)
  have lay : Inv X pins σ (upd H1 dx (.xd [("value", v)])) { (⟨hp, g, d, t, os⟩ : Shared) with heap := G, toks := tk } := I1.laid (t' := tk) (a := dx) (o := .xd [("value", v)]) keep far ⟨_, hn.at fun o y => (gk dx dne).trans y, fun f => by
    show RelO ([(("value" : Str), v)].lookup f) (if f = ("value" : Str) then some u else none)
    by_cases z : f = ("value" : Str)
    · subst z; exact rv
    · rw [if_neg z]
      have : ([(("value" : Str), v)].lookup f) = none := by
        rw [List.lookup_cons]
        have : (f == ("value" : Str)) = false := by simpa using z
        rw [this]; rfl
      rw [this]; trivial⟩
  refine ⟨rfl, ?_⟩
  exact go (hp.objs.size + 1) dx t1 G h2 tk (fresh far) (fresh (Nat.le_succ _)) dne lay (fun b o z => by
    by_cases hb : b = hp.objs.size + 1
    · rw [hb, g2 _ (by simp)] at z; cases z
    · rw [← gk b hb]; exact z) (g2 _ (by simp)) hx
theorem pmk5_xc {te : TE} {C : Addr} (T : XcC X.K fl C) (pf : ((X.prog.main.file : Str) == fl) = true) (pt : (X.prog.main.scope.names.lookup ("super" : Str)).isSome = false) (sup : X.mg ("super" : Str) = none) (hdp : X.A.depth + 8 < recursionLimit) (hg : Gl X x) (hm : X.mg x = some (.ref C)) (he : PE X e te)
    (hdb : (x == ("__debug__" : Str)) = false := by decide) (hs : starEach [e] X.env = (false, eval e X.env) :: starEach [] X.env := by rfl) :
    L2H.PMk5 X (.Call (.Name x p) [e] [] pos) (fun σ H Q => te σ H fun v H1 => ∀ dx, H1 dx = none → Q (.ref C) (some dx) (upd H1 dx (.xd [("value", v)]))) := by
  intro pins s σ H Q I h
  refine wpAny_Call_Name_kw (ld_glob I hg hm ?_ hdb)
  refine PySem.W.callWith_K (h₀ := X.base) I.ok.mod.kin T.o.kC ?_ hs (by rfl)
  rw [hs]
  show wpAny _ _ (spliced ((false, eval e X.env) :: backTo pos (starEach [] X.env))) _ _ s
  refine Calls.spliced_cons (thn (he.run pins s σ H _ I h) fun u s1 ⟨v, H1, I1, r1, q1⟩ => ?_)
  refine Calls.spliced_nil ⟨I1.kIn, ?_⟩
  show wpAny _ _ (call (.ref C) [u]) _ _ _
  refine xc_madeD T pf pt sup hdp I1 r1 fun a dx t1 G h2 tk nd na ne J kk ga ha => ?_
  refine ⟨⟨a, _, _, { s1 with heap := G, toks := tk }, _, .ref C, some dx, rfl, J, kk, ga, ha, ⟨rfl, rfl, fun vs q => by cases q; rfl⟩, rfl, rfl, by rw [upd_ne ne.symm]; exact na, rfl, J.bare, raises_own T.o.exC T.o.tyC, q1 dx nd⟩, fun a' oe vs ea hg hd => ?_⟩
  cases ea
  have hg' : h2.get? a = some oe := hg
  rw [ha] at hg'
  cases hg'
  cases hd
  show (4 : Nat) < 6
  decide
end
variable [KC]
def xTryF (ks : List Str) (D : Str) (ev : EvB) (xb : EvS) : EvS := fun env => match xb env with
  | some (.ret r e) => match r.exc with
    | none => some (.ret r e)
    | some p => if ks.contains p.1 = true then (ev e).map fun q => .ret (exR D q.1) q.2 else none
  | o => o
instance kx_suiteX {X : Cx} [h : KX X] {a : Addr} {pn : List (Addr × Obj)} : KX (L2H.suiteX X a pn) := ⟨h.eq⟩
section
variable {X : Cx} [hx : KX X] {fl x D : Str} {c : Value} {body : List Stmt} {np pos pos' p rp cp qp : Pos} {e : Expr} {j : Nat} {xb : EvS} {ks : List Str} {q : Bool} {ev : EvB} {W : WX}
theorem rs_tryF (hs : X.stack = X.env :: X.outer) (hf : X.env.frame = some X.env.locals) (hc : Names X x c) (hpa : ∀ hd : Option Value, PassesOwnAt (model X.prog X.w) (X.A.mark hd) X.A X.env X.xe) (tk : L2.Takes X W)
    (hk : ∀ k, ks.contains k = true → PySem.W.exmOne KC.K (excA k) c = some true)
    (hb : ∀ (W' : WX) (pn : List (Addr × Obj)) (xe : Value → Shared → Prop), L2N.Takes (X.tr pn xe) W' → PassesOwn (model X.prog X.w) X.A X.env xe → RSs E0 W' (X.tr pn xe) body xb)
    (T : XcC KC.K fl (He.ga KC.K D)) (pf : ((X.prog.main.file : Str) == fl) = true) (pt : (X.prog.main.scope.names.lookup ("super" : Str)).isSome = false) (sup : X.mg ("super" : Str) = none) (hdp : X.A.depth + 8 < recursionLimit) (hg : ∀ a pn, Gl (L2H.suiteX X a pn) D) (hm : X.mg D = some (.ref (He.ga KC.K D)))
    (he : ∀ a pn, SP E0 (L2H.suiteX X a pn) e q ev) (hdb : (D == ("__debug__" : Str)) = false := by decide) (hst : starEach [e] X.env = (false, eval e X.env) :: starEach [] X.env := by rfl) :
    RS E0 W X (.Try body [.ExceptHandler (some (.Name x np)) none [.Raise (some (.Call (.Name D p) [e] [] qp)) (some (.Constant .none j cp)) rp] pos'] [] [] pos) (xTryF ks D ev xb) := ⟨fun fr => by
  refine (L2H.ps_try_onlyX (tb := fun W' => TSw E0 fr W' xb) (ts := fun _ _ _ => fun _ σ H => TP E0 fr q ev σ H fun v H1 => ∀ dx, H1 dx = none → W (excA D) (some dx) σ (upd H1 dx (.xd [("value", v)]))) hs hf hc hpa tk (fun W' pn xe t1 _ po => (hb W' pn xe t1 po).ps fr) fun a oe cls d pn _ _ t2 hot => ?_).weak fun Dd σ H ⟨F, ow, env, o, R, ee, k⟩ => ?_
  · refine pss_one (PS.weak (L2H.ps_raiseHN hot t2 (pmk5_xc (X := L2H.suiteX X a ((a, oe) :: pn)) (by rw [(kx_suiteX (X := X) (a := a) (pn := (a, oe) :: pn)).eq]; exact T) pf pt sup hdp (hg a _) hm ((he a _).pe fr) hdb hst)) fun D' σ H z => z)
  · unfold xTryF at ee
    split at ee
    · rename_i r e0 hb0
      split at ee
      · rename_i z
        cases ee
        refine ⟨F, ow, env, _, R, hb0, fun v F' H' ow' σ' H0 ow0 R' f rs => ?_⟩
        have := k v F' H' ow' σ' H0 ow0 R' f rs
        rw [endR_none z] at this ⊢
        exact this
      · rename_i pq z
        split at ee
        · rename_i zk
          obtain ⟨⟨d, e2⟩, h2, ee⟩ := Option.map_eq_some_iff.mp ee
          cases ee
          refine ⟨F, ow, env, _, R, hb0, fun v F' H' ow' σ' H0 ow0 R' f rs => ?_⟩
          rw [endR_some z]
          intro dx hv
          refine ⟨true, by rw [hx.eq]; exact hk _ zk, fun _ a na => ?_, fun z => nomatch z⟩
          refine ⟨F', ow', _, d, e2, R', h2, fun v2 F2 H2 ow2 R2 g2 _ rv dx2 nd => ?_⟩
          have al : Alloc F2 H2 F2 (upd H2 dx2 (.xd [("value", v2)])) := Alloc.tmp R2.fh nd
          have sd : upd H2 dx2 (.xd [("value", v2)]) dx2 ≠ none := by rw [upd_same]; exact fun z => by cases z
          exact k (.ref dx2) F2 _ ow2 σ' (fun _ => none) ow2 (R2.alloc al) (f.tr g2.f) ⟨rfl, (fun z => nomatch z), fun b => b = dx2, fun b hb => (by
            subst hb
            exact ⟨R2.free nd, R2.fh.non nd, R2.bh.non nd, sd, fun z => absurd rfl z⟩), .inr (.inr (.inr (.inr (.inl ⟨D, d, rfl, rfl, dx2, v2, rfl, rfl, upd_same, rv⟩))))⟩ dx2 rfl
        · cases ee
    · rename_i nn
      refine ⟨F, ow, env, o, R, ee, ?_⟩
      cases o with
      | nxt e => exact k
      | brk e => exact k
      | cnt e => exact k
      | ret r e => exact absurd ee (nn r e)⟩
end
end IX

/-! text IX62 -/
set_option maxHeartbeats 1000000
/-! Calls by name that may raise. -/
namespace IX
open PySem PySem.Spec PyProof.Rows L2
variable [KC]
section
variable {X : Cx} {W : WX} {k n : Nat} {f : Addr} {fd : FuncData} {ps ks : List Str} {sp : Sp} {x : Str} {p pos : Pos} {kws : List Keyword} {tkk : TA} {g : List Value → List Value → List Value} {gV : List V → List V → List V}
theorem peRN0 (F : FnG X.prog X.w X.K X.mg X.base (L2.CX X.prog X.w) k f fd ps sp) (nr : NoRep X.A) (room : Room k X.A) (gl : Gl X x) (at_ : X.mg x = some (.ref f)) (kp : PySem.W.keepIn X.K (.ref f) = true) (hb : KBn X.K fd ps 0 ks g gV) (tk : L2.Takes X W)
    (hkw : PK X kws tkk) (hall : (backToKw pos (keywordEach kws X.env)).all (·.1.isSome) = true) (hks : (backToKw pos (keywordEach kws X.env)).filterMap (·.1) = ks)
    (hdb : (x == ("__debug__" : Str)) = false) (hpl : ((backTo pos (starEach [] X.env)).any (·.1) || (backToKw pos (keywordEach kws X.env)).any (·.1.isNone)) = false) :
    PE X (.Call (.Name x p) [] kws pos) (fun σ H Q => tkk σ H fun zs H2 => zs.length = ks.length ∧ sp (gV [] zs) H2 Q fun c d H' => W c d σ H') := by
  refine ⟨fun pins s σ H Q inv want => wpAny_Call_Name_kw (ld_glob inv gl at_ ?_ hdb)⟩
  refine PySem.W.callWith_KW0 (h₀ := X.base) inv.ok.mod.kin kp hall (thn (hkw.run pos pins s σ H _ inv want) fun ws s2 ⟨zs, H2, i2, rz, l2, q2⟩ => ⟨i2.kIn, ?_⟩) hpl
  subst hks
  exact run_R (us := []) F nr room tk i2 (hb.to s2 [] ws i2.kIn rfl (rz.length.symm.trans l2)) (hb.rel .nil rz) q2
end
section
variable {E : ExtK} {W : WX} {X : Cx} [KX X] {e : Expr} {es : List Expr} {p pos : Pos} {k j : Nat} {x : Str} {params : Arguments} {body : List Stmt} {scope : Scope} {ps : List Str} {f : FSem}
theorem re_callK0 {q' br' : Bool} {evk : EvR} {ks : List Str} {kws : List Keyword} {is : List Nat} (F : FnER E X.prog X.w X.K X.mg X.base k x params body scope ps f) (nr : NoRep X.A) (hr : Room j X.A) (hk : k ≤ j) (hg : Gl X x) (tk : L2.Takes X W) (hkw : SKr E X kws q' br' evk)
    (hlk : ∀ env as env', evk env = some (as, env') → as.length = ks.length) (hi : is.all (fun i => decide (i < ks.length)) = true) (hp : is.length = ps.length)
    (hb : ∀ (kV doc pm : Value) (an : Option Addr) (cdv ct : Value) (ws : List Value), ws.length = ks.length → bindArgs (PySem.W.fnOf x x params body scope .none kV doc pm an cdv ct) ⟨[], ks.zip ws⟩ = pure (ps.zip (pick ws is)))
    (hall : (backToKw pos (keywordEach kws X.env)).all (·.1.isSome) = true := by rfl) (hks : (backToKw pos (keywordEach kws X.env)).filterMap (·.1) = ks := by rfl)
    (hdb : (x == ("__debug__" : Str)) = false := by decide) (hpl : ((backTo pos (starEach [] X.env)).any (·.1) || (backToKw pos (keywordEach kws X.env)).any (·.1.isNone)) = false := by rfl) :
    RE E W X (.Call (.Name x p) [] kws pos) (evCallK f is arN evk) := ⟨fun fr => by
  obtain ⟨fA, fd, F1, hm, FD⟩ := F.ex
  have KB : KBn X.K fd ps 0 ks (fun us ws => pick (us ++ ws) is) (fun us ws => pick (us ++ ws) is) := by
    obtain ⟨oc, od, dV, kV, doc, pm, an, cdv, ct, osl, rfl, lk, hcd, hD, hK⟩ := FD.ex
    rcases hD with ⟨_, rfl⟩ | ⟨e, _⟩
    · refine ⟨fun s us ws _ l1 l2 => ?_, fun r1 r2 => vals_pick (r1.append r2) is⟩
      obtain rfl := List.length_eq_zero_iff.mp l1
      exact .of_eq (hb kV doc pm an cdv ct ws l2)
    · exact absurd rfl e
  refine (peRN0 (F1.mono hk) nr hr hg hm FD.kp KB tk (hkw.pk fr) hall hks hdb hpl).weak fun σ H Q ⟨F, ow, env, r, env', R, ee, k⟩ => ?_
  obtain ⟨as, e1, ss, outs, h1, h2, h3, h4, h5⟩ := evCall_some ee
  obtain ⟨⟨as1, e2⟩, g1, h1⟩ := bind2 h1
  obtain ⟨⟨as2, e3⟩, g2, h1⟩ := Option.map_eq_some_iff.mp h1
  cases h1
  cases g1
  refine ⟨F, ow, env, as2, e3, R, g2, fun zs F2 H2 ow2 R2 gg hq2 aok2 => ⟨aok2.get.1.trans (hlk _ _ _ g2), ?_⟩⟩
  refine call_coreR (br := br') (q := q') R2 gg hq2 (aok2.pick is) ?_ h2 h3 h4 h5 (fun z j hj => hkw.nb z _ _ _ g2 j (pick_mem hj)) fun v F3 H3 ow3 R3 g3 _ rs => k v F3 H3 ow3 R3 g3 rs
  rw [pick_len, hp]
  intro i hmem
  have := List.all_eq_true.mp hi i hmem
  rw [hlk _ _ _ g2]
  simpa using this⟩
end
theorem dp8 {k : Nat} {A B : Around} (h : Room (k + 1) A) (e : B.depth = A.depth) : B.depth + 8 < recursionLimit := by
  rw [e]; have := h.dp; omega
end IX

/-! text T52 -/
set_option maxHeartbeats 0
namespace K52
open PySem PySem.Spec PyProof.Rows L2 IX
variable [KC]
def top (i : Nat) : Stmt := PySem.Challenge.pw_lineends_k52_forms_read.main.body.getD i (.Pass ⟨0, 0, 0, 0⟩)
abbrev FL : Str := PySem.Challenge.pw_lineends_k52_forms_read.main.file
def tab_SIZES : List (Str × PyData) := [("keep", (.int 3)), ("lf", (.int 5)), ("cr", (.int 4))]
structure Gs (w : World) (mg : Str → Option Value) : Prop where
  c_BLANK : ∃ u, mg "BLANK" = some u ∧ Dat u (.str " ")
  c_DIGITS : ∃ u, mg "DIGITS" = some u ∧ Dat u (.str "0123456789")
  c_KEEP : ∃ u, mg "KEEP" = some u ∧ Dat u (.str "keep")
  c_MOST_DIGITS : ∃ u, mg "MOST_DIGITS" = some u ∧ Dat u (.int 60)
  d_SIZES : KD mg KC.K w "SIZES" tab_SIZES
  b_ValueError : mg "ValueError" = none
  b_abs : mg "abs" = none
  b_all : mg "all" = none
  b_int : mg "int" = none
  b_isinstance : mg "isinstance" = none
  b_len : mg "len" = none
  b_min : mg "min" = none
  b_range : mg "range" = none
  b_repr : mg "repr" = none
  b_str : mg "str" = none
  b_tuple : mg "tuple" = none
  b_super : mg "super" = none
  g_InvalidChain : mg "InvalidChain" = some (.ref (He.ga KC.K "InvalidChain"))
  g_InvalidForm : mg "InvalidForm" = some (.ref (He.ga KC.K "InvalidForm"))
  g_InvalidNumber : mg "InvalidNumber" = some (.ref (He.ga KC.K "InvalidNumber"))
  g_InvalidPlace : mg "InvalidPlace" = some (.ref (He.ga KC.K "InvalidPlace"))
  g_InvalidRun : mg "InvalidRun" = some (.ref (He.ga KC.K "InvalidRun"))
  g_LineError : mg "LineError" = some (.ref (He.ga KC.K "LineError"))
  g_NothingToUndo : mg "NothingToUndo" = some (.ref (He.ga KC.K "NothingToUndo"))
  g_UnknownName : mg "UnknownName" = some (.ref (He.ga KC.K "UnknownName"))
  g_Unreadable : mg "Unreadable" = some (.ref (He.ga KC.K "Unreadable"))
  x_InvalidForm : XcC KC.K FL (He.ga KC.K "InvalidForm")
  f_InvalidForm : XfC KC.K (He.ga KC.K "InvalidForm") ∧ PySem.W.findIn KC.K (excA "InvalidForm") "value" = some none
  x_Unreadable : XcC KC.K FL (He.ga KC.K "Unreadable")
  f_Unreadable : XfC KC.K (He.ga KC.K "Unreadable") ∧ PySem.W.findIn KC.K (excA "Unreadable") "value" = some none
  m_InvalidForm_InvalidForm : PySem.W.exmOne KC.K (excA "InvalidForm") (excA "InvalidForm") = some true
  m_InvalidForm_LineError : PySem.W.exmOne KC.K (excA "InvalidForm") (excA "LineError") = some true
  m_Unreadable_LineError : PySem.W.exmOne KC.K (excA "Unreadable") (excA "LineError") = some true
  i_InvalidForm : IcC KC.K (He.ga KC.K "InvalidForm")
  i_Unreadable : IcC KC.K (He.ga KC.K "Unreadable")
  k_InvalidForm_Unreadable : PySem.W.kitOne KC.K (excA "InvalidForm") (excA "Unreadable") = some false
  k_InvalidForm_ValueError : PySem.W.kitOne KC.K (excA "InvalidForm") (.type "ValueError") = some true
  k_Unreadable_Unreadable : PySem.W.kitOne KC.K (excA "Unreadable") (excA "Unreadable") = some true
  k_Unreadable_ValueError : PySem.W.kitOne KC.K (excA "Unreadable") (.type "ValueError") = some true
  ku_InvalidForm_InvalidChain_InvalidForm_InvalidNumber_InvalidPlace_InvalidRun : PySem.W.kitAny KC.K (excA "InvalidForm") [excA "InvalidChain", excA "InvalidForm", excA "InvalidNumber", excA "InvalidPlace", excA "InvalidRun"] = some true
  ku_InvalidForm_NothingToUndo_UnknownName : PySem.W.kitAny KC.K (excA "InvalidForm") [excA "NothingToUndo", excA "UnknownName"] = some false
  ku_Unreadable_InvalidChain_InvalidForm_InvalidNumber_InvalidPlace_InvalidRun : PySem.W.kitAny KC.K (excA "Unreadable") [excA "InvalidChain", excA "InvalidForm", excA "InvalidNumber", excA "InvalidPlace", excA "InvalidRun"] = some false
  ku_Unreadable_NothingToUndo_UnknownName : PySem.W.kitAny KC.K (excA "Unreadable") [excA "NothingToUndo", excA "UnknownName"] = some false
/-! check_form -/
abbrev s_check_form : Stmt := top 15
abbrev N_check_form : List Str := ["wanted"]
def x_check_form : EvS := (xSeq (xIf (evOr (evTr (evBin opEq (evFz (evBlt cLen (evCons (evL 0) evNil))) (evC (.int 0)))) (evOr (evTr (evBin opNe (evGetD tab_SIZES (evCons (evFz (evBin fIdx (evL 0) (evC (.int 0)))) evNil)) (evFz (evBlt cLen (evCons (evL 0) evNil))))) (evTr (evBin opLt (evFz (evBlt cMin1 (evCons (evFz (evSl (evL 0) (evPart (evC (.int 1))) evNo)) evNil))) (evC (.int 0)))))) xNev xNil)
  (xIf (evAnd (evTr (evBin opNe (evFz (evBin fIdx (evL 0) (evC (.int 0)))) (evC (.str "keep")))) (evTr (evBin opLt (evFz (evBin fIdx (evL 0) (evC (.int 3)))) (evC (.int 1))))) xNev xNil))
def F_check_form : FSem := runDef 1 x_check_form
def xx_check_form : EvS := (xSeq (xIf (evOr (evTr (evBin opEq (evFz (evBlt cLen (evCons (evL 0) evNil))) (evC (.int 0)))) (evOr (evTr (evBin opNe (evGetD tab_SIZES (evCons (evFz (evBin fIdx (evL 0) (evC (.int 0)))) evNil)) (evFz (evBlt cLen (evCons (evL 0) evNil))))) (evTr (evBin opLt (evFz (evBlt cMin1 (evCons (evFz (evSl (evL 0) (evPart (evC (.int 1))) evNo)) evNil))) (evC (.int 0)))))) (xRaise "InvalidForm" (evC .none)) xNil)
  (xIf (evAnd (evTr (evBin opNe (evFz (evBin fIdx (evL 0) (evC (.int 0)))) (evC (.str "keep")))) (evTr (evBin opLt (evFz (evBin fIdx (evL 0) (evC (.int 3)))) (evC (.int 1))))) (xRaise "InvalidForm" (evC .none)) xNil))
def FX_check_form : FSem := runDef 1 xx_check_form
/-! number_in -/
abbrev s_number_in : Stmt := top 20
abbrev N_number_in : List Str := ["word", "sign"]
def ce_number_in_1 : EvB := (evFz (evBin opIn (evL 1) (evC (.str "0123456789"))))
def x_number_in : EvS := (xSeq (xIf (evOr (evNot (evTr (evChain opLe opLe (evC (.int 1)) (evFz (evBlt cLen (evCons (evL 0) evNil))) (evC (.int 60))))) (evNot (evTr (evBlt cAll (evCons (evFz (evComp [1] (evIt (evV 0)) (gN 1) evYes ce_number_in_1)) evNil))))) (xRet (evPu (evC .none))) xNil)
  (xRet (evIf (evOr (evTr (evBin opEq (evL 0) (evC (.str "0")))) (evTr (evBin opNe (evFz (evBin fIdx (evL 0) (evC (.int 0)))) (evC (.str "0"))))) (evBlt cIntS (evCons (evL 0) evNil)) (evPu (evC .none)))))
def F_number_in : FSem := runDef 2 x_number_in
/-! read_form -/
abbrev s_read_form : Stmt := top 21
abbrev N_read_form : List Str := ["text", "word", "others", "numbers", "wanted", "part"]
def ce_read_form_1 : EvB := (evFz (evCall F_number_in (arV (evV 5) arN)))
def x_read_form : EvS := (xSeq (xSetT (gStar 1 2 (gsC (gN 1) (gsC (gN 2) gsN))) (evFz (evBin fSplit (evL 0) (evC (.str " ")))))
  (xSeq (xSet 3 (evComp [5] (evIt (evV 2)) (gN 5) evYes ce_read_form_1))
  (xSeq (xIf (evTr (evBin opIn (evC .none) (evL 3))) xNev xNil)
  (xSeq (xSet 4 (evPu (evTup (evCons (evV 1) (evStar (evV 3) evNil)))))
  (xSeq (xDrop (evCall F_check_form (arV (evV 4) arN)))
  (xRet (evM 4)))))))
def F_read_form : FSem := runDef 6 x_read_form
def ceX_read_form_1 : EvB := (evFz (evCall F_number_in (arV (evV 5) arN)))
def xx_read_form : EvS := (xSeq (xOk (xSetT (gStar 1 2 (gsC (gN 1) (gsC (gN 2) gsN))) (evFz (evBin fSplit (evL 0) (evC (.str " "))))))
  (xSeq (xOk (xSet 3 (evComp [5] (evIt (evV 2)) (gN 5) evYes ceX_read_form_1)))
  (xSeq (xIf (evTr (evBin opIn (evC .none) (evL 3))) (xRaise "Unreadable" (evV 0)) xNil)
  (xSeq (xOk (xSet 4 (evPu (evTup (evCons (evV 1) (evStar (evV 3) evNil))))))
  (xSeq (xTryF ["InvalidForm"] "Unreadable" (evV 0) (xDropR (evCall FX_check_form (arV (evV 4) arN))))
  (xOk (xRet (evM 4))))))))
def FX_read_form : FSem := runDef 6 xx_read_form
/-! _law_rng -/
abbrev s__law_rng : Stmt := top 23
abbrev N__law_rng : List Str := ["script", "digits", "seed", "cell", "far"]
def fb__law_rng_1 : EvS := (xSeq (xSet 4 (evBlt cAbs (evCons (evL 3) evNil)))
  (xSeq (xIf (evTr (evBin opGe (evL 4) (evFz (evBin opPow (evC (.int 10)) (evC (.int 18)))))) (xSet 1 (evBin opAdd (evFz (evBin opMul (evL 1) (evFz (evBin opPow (evC (.int 10)) (evC (.int 60)))))) (evFz (evBin opMod (evL 4) (evFz (evBin opPow (evC (.int 10)) (evC (.int 60)))))))) xNil)
  (xSet 2 (evBin opMod (evFz (evBin opAdd (evFz (evBin opAdd (evFz (evBin opMul (evL 2) (evC (.int 1000003)))) (evFz (evBin opMod (evL 3) (evC (.int 2305843009213693921)))))) (evC (.int 7)))) (evC (.int 2305843009213693951))))))
def x__law_rng : EvS := (xSeq (xSetT (gT 2 (gsC (gN 1) (gsC (gN 2) gsN))) (evTup (evCons (evC (.int 0)) (evCons (evC (.int 88675123)) evNil))))
  (xSeq (xFor (evIt (evFz (evScSl 0 evNo (evPart (evC (.int 63)))))) (gN 3) fb__law_rng_1)
  (xRet (evLst (evCons (evV 1) (evCons (evV 2) (evCons (evC (.int 0)) evNil)))))))
def F__law_rng : FSem := runDef 5 x__law_rng
/-! _law_draw -/
abbrev s__law_draw : Stmt := top 24
abbrev N__law_draw : List Str := ["rng", "limit", "found", "mixed"]
def x__law_draw : EvS := (xSeq (xIf (evTr (evBin opGt (evFz (evBin fIdx (evL 0) (evC (.int 0)))) (evC (.int 0)))) (xSeq (xSet 2 (evBin opMod (evFz (evBin fIdx (evL 0) (evC (.int 0)))) (evL 1)))
  (xSeq (xSetI 0 (evFz (evBin opFdiv (evFz (evBin fIdx (evL 0) (evC (.int 0)))) (evL 1))) (evC (.int 0)))
  (xRet (evM 2)))) xNil)
  (xSeq (xSetI 0 (evFz (evBin opAdd (evFz (evBin fIdx (evL 0) (evC (.int 2)))) (evC (.int 1)))) (evC (.int 2)))
  (xSeq (xSet 3 (evBin opMod (evFz (evBin opPow (evFz (evBin opAdd (evFz (evBin fIdx (evL 0) (evC (.int 1)))) (evFz (evBin opMul (evC (.int 998244353)) (evFz (evBin fIdx (evL 0) (evC (.int 2)))))))) (evC (.int 3)))) (evC (.int 162259276829213363391578010288127))))
  (xSeq (xSet 3 (evBin opMod (evFz (evBin opPow (evFz (evBin opAdd (evL 3) (evFz (evBin opMul (evC (.int 32452843)) (evFz (evBin fIdx (evL 0) (evC (.int 2)))))))) (evC (.int 3)))) (evC (.int 170141183460469231731687303715884105727))))
  (xRet (evBin opMod (evFz (evBin opFdiv (evL 3) (evC (.int 1048576)))) (evL 1)))))))
def F__law_draw : FSem := runDef 4 x__law_draw
/-! _law_number -/
abbrev s__law_number : Stmt := top 25
abbrev N__law_number : List Str := ["word", "most", "sign"]
def ct__law_number_1 : EvT := (evTr (evBin opNotIn (evL 2) (evC (.str "0123456789"))))
def x__law_number : EvS := (xSeq (xIf (evOr (evNot (evTr (evChain opLe opLe (evC (.int 1)) (evFz (evBlt cLen (evCons (evL 0) evNil))) (evL 1)))) (evTr (evBin opNe (evFz (evComp [2] (evIt (evV 0)) (gN 2) ct__law_number_1 (evV 2))) (evFz (evLst evNil))))) (xRet (evPu (evC .none))) xNil)
  (xRet (evIf (evAnd (evTr (evBin opGt (evFz (evBlt cLen (evCons (evL 0) evNil))) (evC (.int 1)))) (evTr (evBin opEq (evFz (evBin fIdx (evL 0) (evC (.int 0)))) (evC (.str "0"))))) (evPu (evC .none)) (evBlt cIntS (evCons (evL 0) evNil)))))
def F__law_number : FSem := runDef 3 x__law_number
/-! _law_great -/
abbrev s__law_great : Stmt := top 26
abbrev N__law_great : List Str := ["rng", "some"]
def x__law_great : EvS := (xSeq (xSet 1 (evLst (evCons (evFz (evCall F__law_draw (arR 0 (arV (evC (.int 9)) arN)))) (evCons (evFz (evCall F__law_draw (arR 0 (arV (evFz (evBin opPow (evC (.int 10)) (evC (.int 6)))) arN)))) (evCons (evFz (evCall F__law_draw (arR 0 (arV (evFz (evBin opPow (evC (.int 10)) (evC (.int 30)))) arN)))) (evCons (evFz (evCall F__law_draw (arR 0 (arV (evFz (evBin opPow (evC (.int 10)) (evC (.int 60)))) arN)))) evNil))))))
  (xRet (evBin fIdx (evV 1) (evFz (evCall F__law_draw (arR 0 (arV (evC (.int 4)) arN)))))))
def F__law_great : FSem := runDef 2 x__law_great
/-! _law_due -/
abbrev s__law_due : Stmt := top 27
abbrev N__law_due : List Str := ["written", "words", "numbers", "word"]
def ce__law_due_1 : EvB := (evFz (evCall F__law_number (arV (evV 3) (arV (evC (.int 60)) arN))))
def x__law_due : EvS := (xSeq (xSet 1 (evBin fSplit (evL 0) (evC (.str " "))))
  (xSeq (xSet 2 (evComp [3] (evIt (evFz (evSl (evL 1) (evPart (evC (.int 1))) evNo))) (gN 3) evYes ce__law_due_1))
  (xSeq (xIf (evOr (evTr (evBin opIn (evC .none) (evL 2))) (evTr (evBin opNe (evFz (evBlt cLen (evCons (evL 2) evNil))) (evD3g "keep" "lf" "cr" 2 4 3 (-1) (evFz (evBin fIdx (evL 1) (evC (.int 0)))))))) (xRet (evLst evNil)) xNil)
  (xRet (evIf (evOr (evTr (evBin opEq (evFz (evBin fIdx (evL 1) (evC (.int 0)))) (evC (.str "keep")))) (evTr (evBin opGt (evFz (evBin fIdx (evL 2) (evC (.int 2)))) (evC (.int 0))))) (evLst (evCons (evFz (evBin opAdd (evTup (evCons (evFz (evBin fIdx (evL 1) (evC (.int 0)))) evNil)) (evFz (evBlt cTup (evCons (evL 2) evNil))))) evNil)) (evLst evNil))))))
def F__law_due : FSem := runDef 4 x__law_due
/-! _law_told -/
abbrev s__law_told : Stmt := top 28
abbrev N__law_told : List Str := ["written", "by_name", "others", "e"]
def tb__law_told_1 : EvS := (xRet (evL1 (evIf (evTr (evPu (evV 1))) (evCallK FX_read_form [0] arN (arV (evV 0) arN)) (evCall FX_read_form (arV (evV 0) arN)))))
def ts__law_told_1 : EvS := (xSeq (xSet 2 (evPu (evIsX [("InvalidForm", true), ("Unreadable", false)] 3)))
  (xSeq (xSet 2 (evPu (evBo (evOr (evTr (evPu (evV 2))) (evTr (evPu (evIsX [("InvalidForm", false), ("Unreadable", false)] 3)))))))
  (xRet (evPu (evTup (evCons (evIsX [("InvalidForm", false), ("Unreadable", true)] 3) (evCons (evIsX [("InvalidForm", true), ("Unreadable", true)] 3) (evCons (evV 2) (evCons (evExV ["InvalidForm", "Unreadable"] 3) evNil)))))))))
def x__law_told : EvS := (xTry ["InvalidForm", "Unreadable"] 3 tb__law_told_1 ts__law_told_1)
def F__law_told : FSem := runDef 4 x__law_told
/-! _law_bent -/
abbrev s__law_bent : Stmt := top 29
abbrev N__law_bent : List Str := ["rng", "line", "words", "spot", "way", "some", "signs", "turn", "cut", "sign"]
def fb__law_bent_1 : EvS := (xSeq (xSet 8 (evCall F__law_draw (arR 0 (arV (evFz (evBin opAdd (evFz (evBlt cLen (evCons (evL 1) evNil))) (evC (.int 1)))) arN))))
  (xSeq (xSet 9 (evBin opMul (evFz (evBin fIdx (evV 6) (evFz (evCall F__law_draw (arR 0 (arV (evFz (evBlt cLen (evCons (evL 6) evNil))) arN)))))) (evFz (evCall F__law_draw (arR 0 (arV (evC (.int 2)) arN))))))
  (xSet 1 (evBin opAdd (evFz (evBin opAdd (evFz (evSl (evL 1) evNo (evPart (evL 8)))) (evL 9))) (evFz (evSl (evV 1) (evPart (evFz (evBin opAdd (evV 8) (evFz (evCall F__law_draw (arR 0 (arV (evC (.int 2)) arN))))))) evNo))))))
def x__law_bent : EvS := (xSeq (xSet 2 (evBin fSplit (evL 1) (evC (.str " "))))
  (xSeq (xPar [3, 4] (slC (evCall F__law_draw (arR 0 (arV (evFz (evBlt cLen (evCons (evL 2) evNil))) arN))) (slC (evCall F__law_draw (arR 0 (arV (evC (.int 4)) arN))) slN)))
  (xSeq (xIf (evTr (evBin opEq (evL 4) (evC (.int 0)))) (xRet (evBin fJoin (evC (.str " ")) (evFz (evBin opAdd (evFz (evSl (evL 2) evNo (evPart (evL 3)))) (evFz (evSl (evL 2) (evPart (evFz (evBin opAdd (evL 3) (evC (.int 1))))) evNo)))))) xNil)
  (xSeq (xIf (evTr (evBin opEq (evL 4) (evC (.int 1)))) (xRet (evBin fJoin (evC (.str " ")) (evFz (evBin opAdd (evFz (evBin opAdd (evFz (evSl (evL 2) evNo (evPart (evL 3)))) (evFz (evLst (evCons (evFz (evBlt cStr (evCons (evFz (evCall F__law_draw (arR 0 (arV (evC (.int 3)) arN)))) evNil))) evNil))))) (evFz (evSl (evL 2) (evPart (evL 3)) evNo)))))) xNil)
  (xSeq (xIf (evTr (evBin opEq (evL 4) (evC (.int 2)))) (xSeq (xSet 5 (evLst (evCons (evC (.str "0")) (evCons (evC (.str "01")) (evCons (evC (.str "-1")) (evCons (evC (.str "+1")) (evCons (evC (.str "")) (evCons (evC (.str "x")) (evCons (evC (.str "keep")) (evCons (evC (.str "lf")) (evCons (evC (.str "cr")) (evCons (evC (.str "LF")) (evCons (evC (.str "Keep")) (evCons (evFz (evBin opMul (evC (.str "9")) (evC (.int 60)))) (evCons (evFz (evBin opMul (evC (.str "9")) (evC (.int 61)))) (evCons (evC (.str "1.0")) (evCons (evC (.str "none")) evNil)))))))))))))))))
  (xSeq (xSetI 2 (evFz (evBin fIdx (evV 5) (evFz (evCall F__law_draw (arR 0 (arV (evC (.int 15)) arN)))))) (evL 3))
  (xRet (evBin fJoin (evC (.str " ")) (evL 2))))) xNil)
  (xSeq (xSet 6 (evPu (evC (.str "0123klfcrep -"))))
  (xSeq (xFor (evIter cRange1 (evCons (evFz (evBin opAdd (evC (.int 1)) (evFz (evCall F__law_draw (arR 0 (arV (evC (.int 3)) arN)))))) evNil)) (gN 7) fb__law_bent_1)
  (xRet (evM 1)))))))))
def F__law_bent : FSem := runDef 10 x__law_bent
/-! _law_right -/
abbrev s__law_right : Stmt := top 30
abbrev N__law_right : List Str := ["one", "due", "by_name", "told"]
def fb__law_right_1 : EvS := (xSeq (xSet 3 (evCall F__law_told (arV (evV 0) (arV (evV 2) arN))))
  (xIf (evOr (evAnd (evTr (evBin opEq (evL 1) (evFz (evLst evNil)))) (evTr (evBin opNe (evL 3) (evTup (evCons (evC (.bool true)) (evCons (evC (.bool true)) (evCons (evC (.bool false)) (evCons (evV 0) evNil)))))))) (evAnd (evTr (evBin opNe (evL 1) (evFz (evLst evNil)))) (evTr (evBin opNe (evFz (evBlt cRepr (evCons (evL 3) evNil))) (evFz (evBlt cRepr (evCons (evL 1) evNil))))))) (xRet (evPu (evC (.bool false)))) xNil))
def x__law_right : EvS := (xSeq (xSet 1 (evCall F__law_due (arV (evV 0) arN)))
  (xSeq (xFor (evIt (evFz (evLst (evCons (evC (.bool false)) (evCons (evC (.bool true)) evNil))))) (gN 2) fb__law_right_1)
  (xRet (evPu (evC (.bool true))))))
def F__law_right : FSem := runDef 4 x__law_right
/-! law -/
abbrev s_law : Stmt := top 31
abbrev N_law : List Str := ["script", "rng", "lap", "word", "many", "line", "turn", "fixed", "one"]
def ce_law_1 : EvB := (evFz (evBlt cStr (evCons (evFz (evCall F__law_great (arR 1 arN))) evNil)))
def if_law_1 : EvS := (xIf (evNot (evTr (evCall F__law_right (arV (evFz (evIf (evTr (evBin opEq (evL 6) (evC (.int 0)))) (evPu (evV 5)) (evCall F__law_bent (arR 1 (arV (evV 5) arN))))) arN)))) (xRet (evPu (evC (.bool false)))) xNil)
def fb_law_1 : EvS := (xSeq (xSetT (gT 2 (gsC (gN 3) (gsC (gN 4) gsN))) (evFz (evBin fIdx (evFz (evLst (evCons (evTup (evCons (evC (.str "keep")) (evCons (evC (.int 2)) evNil))) (evCons (evTup (evCons (evC (.str "lf")) (evCons (evC (.int 4)) evNil))) (evCons (evTup (evCons (evC (.str "cr")) (evCons (evC (.int 3)) evNil))) evNil))))) (evFz (evCall F__law_draw (arR 1 (arV (evC (.int 3)) arN)))))))
  (xSeq (xSet 5 (evBin fJoin (evC (.str " ")) (evFz (evBin opAdd (evFz (evLst (evCons (evV 3) evNil))) (evFz (evComp [6] (evIter cRange1 (evCons (evL 4) evNil)) (gN 6) evYes ce_law_1))))))
  (xFor (evIter cRange1 (evCons (evC (.int 5)) evNil)) (gN 6) if_law_1)))
def ct_law_1 : EvT := (evNot (evTr (evCall F__law_right (arV (evV 8) arN))))
def x_law : EvS := (xSeq (xSet 1 (evCall F__law_rng (arR 0 arN)))
  (xSeq (xFor (evIter cRange1 (evCons (evFz (evBin opAdd (evC (.int 8)) (evFz (evBlt cMin2 (evCons (evC (.int 12)) (evCons (evScLen 0) evNil)))))) evNil)) (gN 2) fb_law_1)
  (xSeq (xSet 7 (evLst (evCons (evC (.str "keep 0 0\n")) (evCons (evC (.str "\nkeep 0 0")) evNil))))
  (xSeq (xSet 7 (evBin opAdd (evL 7) (evFz (evLst (evCons (evC (.str "")) (evCons (evC (.str " ")) (evCons (evC (.str "keep")) (evCons (evC (.str "keep 0 0")) (evCons (evC (.str "keep 0 0 ")) (evCons (evC (.str " keep 0 0")) (evCons (evC (.str "keep 0  0")) (evCons (evC (.str "keep 0 0 0")) (evCons (evC (.str "lf 0 0 1 0")) evNil)))))))))))))
  (xSeq (xSet 7 (evBin opAdd (evL 7) (evFz (evLst (evCons (evC (.str "lf 0 0 0 0")) (evCons (evC (.str "lf 0 0 1")) (evCons (evC (.str "cr 0 0 1")) (evCons (evC (.str "cr 0 0 0")) (evCons (evC (.str "cr 0 0")) (evCons (evC (.str "KEEP 0 0")) evNil))))))))))
  (xSeq (xSet 7 (evBin opAdd (evL 7) (evFz (evLst (evCons (evC (.str "keep -1 0")) (evCons (evC (.str "keep,0,0")) (evCons (evC (.str "lf 1 1 1 1 1")) evNil)))))))
  (xRet (evBin opEq (evFz (evComp [8] (evIt (evV 7)) (gN 8) ct_law_1 (evV 8))) (evFz (evLst evNil))))))))))
def F_law : FSem := runDef 9 x_law
section
variable {P : Program} {w : World} {mg : Str → Option Value} {base : Heap} {fA : Addr} {fd : FuncData}
theorem sc_check_form : FnScope N_check_form ["wanted"] (defScope s_check_form) := ⟨rfl, rfl, rfl, by decide +kernel, rfl, by decide +kernel, by decide +kernel⟩
theorem ok_check_form (G : Gs w mg) (D : FunD KC.K "check_form" "check_form" (defArgs s_check_form) (defBody s_check_form) (defScope s_check_form) [] [] fA fd) (g : mg "check_form" = some (.ref fA)) :
    FnEG E0 P w KC.K mg base 2 "check_form" (defArgs s_check_form) (defBody s_check_form) (defScope s_check_form) ["wanted"] F_check_form := by
  refine ⟨⟨fA, fd, def_okG (N := N_check_form) (k := 1) D sc_check_form rfl fun cdv A outer s H XE hr nr => ?_, g, D⟩, fun _ _ _ _ _ _ us hl => match us, hl with | [_], _ => rfl⟩
  exact (sss_cons (ss_if (SW.st (sw_or (st_cmp (bv_eq (hu_of hr)) (SE.sb (se_callB cv_len rfl G.b_len bt_len (sab_cons (sb_var (pe_var (i := 0) rfl (.inl rfl))) sab_nil))) (SP.sb sp_int) (nomark _)) (sw_or (st_cmp (bv_ne (hu_of hr)) (SP.sb (sp_getD rfl G.d_SIZES (sa_cons (SE.sp (se_idx (sb_var (pe_var (i := 0) rfl (.inl rfl))) (SP.sb sp_int))) sa_nil))) (SE.sb (se_callB cv_len rfl G.b_len bt_len (sab_cons (sb_var (pe_var (i := 0) rfl (.inl rfl))) sab_nil))) (nomark _)) (sw_or1 (st_cmp bv_lt (SE.sb (se_callB (cv_min1 rfl (hu_of hr)) rfl G.b_min bt_min (sab_cons (SE.sb (se_slice (sb_var (pe_var (i := 0) rfl (.inl rfl))) (so_some (SP.sb sp_int)) so_none)) sab_nil))) (SP.sb sp_int) (nomark _)))))) (sss_one ss_never) sss_nil)
    (sss_one (ss_if (SW.st (sw_and (st_cmp (bv_ne (hu_of hr)) (SE.sb (se_idx (sb_var (pe_var (i := 0) rfl (.inl rfl))) (SP.sb sp_int))) (SP.sb (sp_gc rfl G.c_KEEP)) (nomark _)) (sw_and1 (st_cmp bv_lt (SE.sb (se_idx (sb_var (pe_var (i := 0) rfl (.inl rfl))) (SP.sb sp_int))) (SP.sb sp_int) (nomark _))))) (sss_one ss_never) sss_nil)))
theorem okX_check_form (PX : XP P FL) (G : Gs w mg) (D : FunD KC.K "check_form" "check_form" (defArgs s_check_form) (defBody s_check_form) (defScope s_check_form) [] [] fA fd) (g : mg "check_form" = some (.ref fA)) :
    FnER E0 P w KC.K mg base 2 "check_form" (defArgs s_check_form) (defBody s_check_form) (defScope s_check_form) ["wanted"] FX_check_form := by
  refine ⟨⟨fA, fd, def_okR (N := N_check_form) (k := 1) D sc_check_form rfl fun cdv A outer s H XE W hr nr tk po => ?_, g, D⟩, fun _ _ _ _ _ _ us hl => match us, hl with | [_], _ => rfl⟩
  exact (rss_cons (rs_if (SW.st (sw_or (st_cmp (bv_eq (hu_of hr)) (SE.sb (se_callB cv_len rfl G.b_len bt_len (sab_cons (sb_var (pe_var (i := 0) rfl (.inl rfl))) sab_nil))) (SP.sb sp_int) (nomark _)) (sw_or (st_cmp (bv_ne (hu_of hr)) (SP.sb (sp_getD rfl G.d_SIZES (sa_cons (SE.sp (se_idx (sb_var (pe_var (i := 0) rfl (.inl rfl))) (SP.sb sp_int))) sa_nil))) (SE.sb (se_callB cv_len rfl G.b_len bt_len (sab_cons (sb_var (pe_var (i := 0) rfl (.inl rfl))) sab_nil))) (nomark _)) (sw_or1 (st_cmp bv_lt (SE.sb (se_callB (cv_min1 rfl (hu_of hr)) rfl G.b_min bt_min (sab_cons (SE.sb (se_slice (sb_var (pe_var (i := 0) rfl (.inl rfl))) (so_some (SP.sb sp_int)) so_none)) sab_nil))) (SP.sb sp_int) (nomark _)))))) (rss_one (rs_raise rfl G.x_InvalidForm PX.pf PX.pt G.b_super hr rfl G.g_InvalidForm tk sp_non)) rss_nil)
    (rss_one (rs_if (SW.st (sw_and (st_cmp (bv_ne (hu_of hr)) (SE.sb (se_idx (sb_var (pe_var (i := 0) rfl (.inl rfl))) (SP.sb sp_int))) (SP.sb (sp_gc rfl G.c_KEEP)) (nomark _)) (sw_and1 (st_cmp bv_lt (SE.sb (se_idx (sb_var (pe_var (i := 0) rfl (.inl rfl))) (SP.sb sp_int))) (SP.sb sp_int) (nomark _))))) (rss_one (rs_raise rfl G.x_InvalidForm PX.pf PX.pt G.b_super hr rfl G.g_InvalidForm tk sp_non)) rss_nil)))
theorem okN_check_form (PX : XP P FL) (G : Gs w mg) (D : FunD KC.K "check_form" "check_form" (defArgs s_check_form) (defBody s_check_form) (defScope s_check_form) [] [] fA fd) (g : mg "check_form" = some (.ref fA)) :
    FnER_N E0 P w KC.K mg base 2 "check_form" (defArgs s_check_form) (defBody s_check_form) (defScope s_check_form) ["wanted"] FX_check_form := by
  refine ⟨⟨fA, fd, def_okR_N (N := N_check_form) (k := 1) D sc_check_form rfl fun cdv A outer s H XE W hr nr tk po => ?_, g, D⟩, fun _ _ _ _ _ _ us hl => match us, hl with | [_], _ => rfl⟩
  exact (rss_cons (rs_if (SW.st (sw_or (st_cmp (bv_eq (hu_of hr)) (SE.sb (se_callB cv_len rfl G.b_len bt_len (sab_cons (sb_var (pe_var (i := 0) rfl (.inl rfl))) sab_nil))) (SP.sb sp_int) (nomark _)) (sw_or (st_cmp (bv_ne (hu_of hr)) (SP.sb (sp_getD rfl G.d_SIZES (sa_cons (SE.sp (se_idx (sb_var (pe_var (i := 0) rfl (.inl rfl))) (SP.sb sp_int))) sa_nil))) (SE.sb (se_callB cv_len rfl G.b_len bt_len (sab_cons (sb_var (pe_var (i := 0) rfl (.inl rfl))) sab_nil))) (nomark _)) (sw_or1 (st_cmp bv_lt (SE.sb (se_callB (cv_min1 rfl (hu_of hr)) rfl G.b_min bt_min (sab_cons (SE.sb (se_slice (sb_var (pe_var (i := 0) rfl (.inl rfl))) (so_some (SP.sb sp_int)) so_none)) sab_nil))) (SP.sb sp_int) (nomark _)))))) (rss_one (rs_raise_N rfl G.x_InvalidForm PX.pf PX.pt G.b_super hr rfl G.g_InvalidForm tk sp_non)) rss_nil)
    (rss_one (rs_if (SW.st (sw_and (st_cmp (bv_ne (hu_of hr)) (SE.sb (se_idx (sb_var (pe_var (i := 0) rfl (.inl rfl))) (SP.sb sp_int))) (SP.sb (sp_gc rfl G.c_KEEP)) (nomark _)) (sw_and1 (st_cmp bv_lt (SE.sb (se_idx (sb_var (pe_var (i := 0) rfl (.inl rfl))) (SP.sb sp_int))) (SP.sb sp_int) (nomark _))))) (rss_one (rs_raise_N rfl G.x_InvalidForm PX.pf PX.pt G.b_super hr rfl G.g_InvalidForm tk sp_non)) rss_nil)))
theorem sc_number_in : FnScope N_number_in ["word"] (defScope s_number_in) := ⟨rfl, rfl, rfl, by decide +kernel, rfl, by decide +kernel, by decide +kernel⟩
theorem ok_number_in (G : Gs w mg) (D : FunD KC.K "number_in" "number_in" (defArgs s_number_in) (defBody s_number_in) (defScope s_number_in) [] [] fA fd) (g : mg "number_in" = some (.ref fA)) :
    FnEG E0 P w KC.K mg base 1 "number_in" (defArgs s_number_in) (defBody s_number_in) (defScope s_number_in) ["word"] F_number_in := by
  refine ⟨⟨fA, fd, def_okG (N := N_number_in) (k := 0) D sc_number_in rfl fun cdv A outer s H XE hr nr => ?_, g, D⟩, fun _ _ _ _ _ _ us hl => match us, hl with | [_], _ => rfl⟩
  exact (sss_cons (ss_if (SW.st (sw_or (st_not (st_chain bv_le bv_le sp_int (SE.sp (se_callB cv_len rfl G.b_len bt_len (sab_cons (sb_var (pe_var (i := 0) rfl (.inl rfl))) sab_nil))) (SP.sb (sp_gc rfl G.c_MOST_DIGITS)))) (sw_or1 (st_not (st_val (se_callB (cv_all rfl) rfl G.b_all bt_all (sab_cons (SE.sb (se_comp rfl sc_number_in.nd (blkOk_by (own := [("sign", 1)]) (N := N_number_in) (sc := defScope s_number_in) (by decide +kernel)) rfl rfl (si_seq (sp_var (pe_var (i := 0) rfl (.inl rfl)))) (fun _ _ _ _ _ => (sg_name sc_number_in.nd rfl (.inl rfl))) (fun _ _ _ _ _ => sts_nil) (fun _ _ _ _ _ => (SE.sp (se_cmp bv_in (sb_var (pe_var (i := 1) rfl (.inl rfl))) (SP.sb (sp_gc rfl G.c_DIGITS)) (by with_unfolding_all rfl)))))) sab_nil))))))) (sss_one (ss_ret (SP.se sp_non))) sss_nil)
    (sss_one (ss_ret (se_if (SW.st (sw_or (st_cmp (bv_eq (hu_of hr)) (sb_var (pe_var (i := 0) rfl (.inl rfl))) (SP.sb sp_str) (nomark _)) (sw_or1 (st_cmp (bv_ne (hu_of hr)) (SE.sb (se_idx (sb_var (pe_var (i := 0) rfl (.inl rfl))) (SP.sb sp_int))) (SP.sb sp_str) (nomark _))))) (se_callTy cv_intS rfl G.b_int bt_int (sab_cons (sb_var (pe_var (i := 0) rfl (.inl rfl))) sab_nil)) (SP.se sp_non)))))
theorem sc_read_form : FnScope N_read_form ["text"] (defScope s_read_form) := ⟨rfl, rfl, rfl, by decide +kernel, rfl, by decide +kernel, by decide +kernel⟩
theorem ok_read_form (G : Gs w mg) (h_number_in : FnEG E0 P w KC.K mg base 1 "number_in" (defArgs s_number_in) (defBody s_number_in) (defScope s_number_in) ["word"] F_number_in) (h_check_form : FnEG E0 P w KC.K mg base 2 "check_form" (defArgs s_check_form) (defBody s_check_form) (defScope s_check_form) ["wanted"] F_check_form) (D : FunD KC.K "read_form" "read_form" (defArgs s_read_form) (defBody s_read_form) (defScope s_read_form) [] [] fA fd) (g : mg "read_form" = some (.ref fA)) :
    FnEG E0 P w KC.K mg base 3 "read_form" (defArgs s_read_form) (defBody s_read_form) (defScope s_read_form) ["text"] F_read_form := by
  refine ⟨⟨fA, fd, def_okG (N := N_read_form) (k := 2) D sc_read_form rfl fun cdv A outer s H XE hr nr => ?_, g, D⟩, fun _ _ _ _ _ _ us hl => match us, hl with | [_], _ => rfl⟩
  exact (sss_cons (ss_asg (SE.sp (se_split (sb_var (pe_var (i := 0) rfl (.inl rfl))) (SP.sb (sp_gc rfl G.c_BLANK)))) (sg_star (i := 1) rfl (sgs_cons (sg_name sc_read_form.nd rfl (.inl rfl)) (sgs_cons (sg_name sc_read_form.nd rfl (.inl rfl)) sgs_nil))))
    (sss_cons (ss_setLc rfl sc_read_form.nd rfl rfl (sw_true rfl rfl rfl (by decide +kernel)) (blkOk_by (own := [("part", 5)]) (N := N_read_form) (sc := defScope s_read_form) (by decide +kernel)) rfl rfl (si_seq (sp_var (pe_var (i := 2) rfl (.inl rfl)))) (fun _ _ _ _ _ => (sg_name sc_read_form.nd rfl (.inl rfl))) (fun _ _ _ _ _ => sts_nil) (fun _ _ _ _ _ => (SE.sp (se_callG h_number_in nr hr (by decide) rfl (sar_val (sp_var (pe_var (i := 5) rfl (.inl rfl))) sar_nil) rfl (arV_len arN_len)))))
    (sss_cons (ss_if (st_cmp bv_in (SP.sb sp_non) (sb_var (pe_var (i := 3) rfl (.inl rfl))) (by with_unfolding_all rfl)) (sss_one ss_never) sss_nil)
    (sss_cons (ss_set sc_read_form.nd rfl (.inl rfl) (SP.se (sp_tup (sa_cons (sp_var (pe_var (i := 1) rfl (.inl rfl))) (sa_star (sp_var (pe_var (i := 3) rfl (.inl rfl))) sa_nil)))))
    (sss_cons (ss_tryN (fun _ _ z => z) (sss_one (ss_expr (se_callG h_check_form nr hr (by decide) rfl (sar_val (sp_var (pe_var (i := 4) rfl (.inl rfl))) sar_nil) rfl (arV_len arN_len)))))
    (sss_one (ss_ret (se_mov (pe_var (i := 4) rfl (.inl rfl))))))))))
theorem okX_read_form (PX : XP P FL) (G : Gs w mg) (h_number_in : FnEG E0 P w KC.K mg base 1 "number_in" (defArgs s_number_in) (defBody s_number_in) (defScope s_number_in) ["word"] F_number_in) (hn_check_form : FnER_N E0 P w KC.K mg base 2 "check_form" (defArgs s_check_form) (defBody s_check_form) (defScope s_check_form) ["wanted"] FX_check_form) (D : FunD KC.K "read_form" "read_form" (defArgs s_read_form) (defBody s_read_form) (defScope s_read_form) [] [] fA fd) (g : mg "read_form" = some (.ref fA)) :
    FnER E0 P w KC.K mg base 3 "read_form" (defArgs s_read_form) (defBody s_read_form) (defScope s_read_form) ["text"] FX_read_form := by
  refine ⟨⟨fA, fd, def_okR (N := N_read_form) (k := 2) D sc_read_form rfl fun cdv A outer s H XE W hr nr tk po => ?_, g, D⟩, fun _ _ _ _ _ _ us hl => match us, hl with | [_], _ => rfl⟩
  exact (rss_cons (rs_of (ss_asg (SE.sp (se_split (sb_var (pe_var (i := 0) rfl (.inl rfl))) (SP.sb (sp_gc rfl G.c_BLANK)))) (sg_star (i := 1) rfl (sgs_cons (sg_name sc_read_form.nd rfl (.inl rfl)) (sgs_cons (sg_name sc_read_form.nd rfl (.inl rfl)) sgs_nil)))))
    (rss_cons (rs_of (ss_setLc rfl sc_read_form.nd rfl rfl (sw_true rfl rfl rfl (by decide +kernel)) (blkOk_by (own := [("part", 5)]) (N := N_read_form) (sc := defScope s_read_form) (by decide +kernel)) rfl rfl (si_seq (sp_var (pe_var (i := 2) rfl (.inl rfl)))) (fun _ _ _ _ _ => (sg_name sc_read_form.nd rfl (.inl rfl))) (fun _ _ _ _ _ => sts_nil) (fun _ _ _ _ _ => (SE.sp (se_callG h_number_in nr hr (by decide) rfl (sar_val (sp_var (pe_var (i := 5) rfl (.inl rfl))) sar_nil) rfl (arV_len arN_len))))))
    (rss_cons (rs_if (st_cmp bv_in (SP.sb sp_non) (sb_var (pe_var (i := 3) rfl (.inl rfl))) (by with_unfolding_all rfl)) (rss_one (rs_raise rfl G.x_Unreadable PX.pf PX.pt G.b_super hr rfl G.g_Unreadable tk (sp_var (pe_var (i := 0) rfl (.inl rfl))))) rss_nil)
    (rss_cons (rs_of (ss_set sc_read_form.nd rfl (.inl rfl) (SP.se (sp_tup (sa_cons (sp_var (pe_var (i := 1) rfl (.inl rfl))) (sa_star (sp_var (pe_var (i := 3) rfl (.inl rfl))) sa_nil))))))
    (rss_cons (rs_tryF rfl rfl ⟨rfl, by decide, .inl G.g_InvalidForm⟩ (L2H.passesAt_of rfl) tk (ksC G.m_InvalidForm_InvalidForm ksN) (fun W pn xe tk po => (rss_one (rs_expr (re_call_N hn_check_form nr hr (by decide) rfl tk (sar_val (sp_var (pe_var (i := 4) rfl (.inl rfl))) sar_nil) rfl (arV_len arN_len))))) G.x_Unreadable PX.pf PX.pt G.b_super (dp8 hr rfl) (fun _ _ => rfl) G.g_Unreadable (fun _ _ => (sp_var (pe_var (i := 0) rfl (.inl rfl)))))
    (rss_one (rs_of (ss_ret (se_mov (pe_var (i := 4) rfl (.inl rfl)))))))))))
theorem sc__law_rng : FnScope N__law_rng ["script"] (defScope s__law_rng) := ⟨rfl, rfl, rfl, by decide +kernel, rfl, by decide +kernel, by decide +kernel⟩
theorem ok__law_rng (G : Gs w mg) (D : FunD KC.K "_law_rng" "_law_rng" (defArgs s__law_rng) (defBody s__law_rng) (defScope s__law_rng) [] [] fA fd) (g : mg "_law_rng" = some (.ref fA)) :
    FnEG E0 P w KC.K mg base 1 "_law_rng" (defArgs s__law_rng) (defBody s__law_rng) (defScope s__law_rng) ["script"] F__law_rng := by
  refine ⟨⟨fA, fd, def_okG (N := N__law_rng) (k := 0) D sc__law_rng rfl fun cdv A outer s H XE hr nr => ?_, g, D⟩, fun _ _ _ _ _ _ us hl => match us, hl with | [_], _ => rfl⟩
  exact (sss_cons (ss_asg (sp_tup (sa_cons sp_int (sa_cons sp_int sa_nil))) (sg_tup rfl (sgs_cons (sg_name sc__law_rng.nd rfl (.inl rfl)) (sgs_cons (sg_name sc__law_rng.nd rfl (.inl rfl)) sgs_nil))))
    (sss_cons (ss_for PassesOwn.never rfl (si_seq (SE.sp (se_scSl (pe_var (i := 0) rfl (.inl rfl)) so_none (so_some (SP.sb sp_int))))) (sg_name sc__law_rng.nd rfl (.inl rfl)) (sss_cons (ss_set sc__law_rng.nd rfl (.inl rfl) (se_callB cv_abs rfl G.b_abs bt_abs (sab_cons (sb_var (pe_var (i := 3) rfl (.inl rfl))) sab_nil)))
    (sss_cons (ss_if (st_cmp bv_ge (sb_var (pe_var (i := 4) rfl (.inl rfl))) (SE.sb (se_bin bv_pow (SP.sb sp_int) (SP.sb sp_int))) (nomark _)) (sss_one (ss_set sc__law_rng.nd rfl (.inl rfl) (se_bin bv_add (SE.sb (se_bin bv_mul (sb_var (pe_var (i := 1) rfl (.inl rfl))) (SE.sb (se_bin bv_pow (SP.sb sp_int) (SP.sb sp_int))))) (SE.sb (se_bin bv_mod (sb_var (pe_var (i := 4) rfl (.inl rfl))) (SE.sb (se_bin bv_pow (SP.sb sp_int) (SP.sb sp_int)))))))) sss_nil)
    (sss_one (ss_set sc__law_rng.nd rfl (.inl rfl) (se_bin bv_mod (SE.sb (se_bin bv_add (SE.sb (se_bin bv_add (SE.sb (se_bin bv_mul (sb_var (pe_var (i := 2) rfl (.inl rfl))) (SP.sb sp_int))) (SE.sb (se_bin bv_mod (sb_var (pe_var (i := 3) rfl (.inl rfl))) (SP.sb sp_int))))) (SP.sb sp_int))) (SP.sb sp_int)))))))
    (sss_one (ss_ret (se_lst (sa_cons (sp_var (pe_var (i := 1) rfl (.inl rfl))) (sa_cons (sp_var (pe_var (i := 2) rfl (.inl rfl))) (sa_cons sp_int sa_nil))))))))
theorem sc__law_draw : FnScope N__law_draw ["rng", "limit"] (defScope s__law_draw) := ⟨rfl, rfl, rfl, by decide +kernel, rfl, by decide +kernel, by decide +kernel⟩
theorem ok__law_draw (G : Gs w mg) (D : FunD KC.K "_law_draw" "_law_draw" (defArgs s__law_draw) (defBody s__law_draw) (defScope s__law_draw) [] [] fA fd) (g : mg "_law_draw" = some (.ref fA)) :
    FnEG E0 P w KC.K mg base 1 "_law_draw" (defArgs s__law_draw) (defBody s__law_draw) (defScope s__law_draw) ["rng", "limit"] F__law_draw := by
  refine ⟨⟨fA, fd, def_okG (N := N__law_draw) (k := 0) D sc__law_draw rfl fun cdv A outer s H XE hr nr => ?_, g, D⟩, fun _ _ _ _ _ _ us hl => match us, hl with | [_, _], _ => rfl⟩
  exact (sss_cons (ss_if (st_cmp bv_gt (SE.sb (se_idx (sb_var (pe_var (i := 0) rfl (.inl rfl))) (SP.sb sp_int))) (SP.sb sp_int) (nomark _)) (sss_cons (ss_set sc__law_draw.nd rfl (.inl rfl) (se_bin bv_mod (SE.sb (se_idx (sb_var (pe_var (i := 0) rfl (.inl rfl))) (SP.sb sp_int))) (sb_var (pe_var (i := 1) rfl (.inl rfl)))))
    (sss_cons (ss_setI (pe_var (i := 0) rfl (.inl rfl)) (SE.sp (se_bin bv_fdiv (SE.sb (se_idx (sb_var (pe_var (i := 0) rfl (.inl rfl))) (SP.sb sp_int))) (sb_var (pe_var (i := 1) rfl (.inl rfl))))) (SP.sb sp_int))
    (sss_one (ss_ret (se_mov (pe_var (i := 2) rfl (.inl rfl))))))) sss_nil)
    (sss_cons (ss_setI (pe_var (i := 0) rfl (.inl rfl)) (SE.sp (se_bin bv_add (SE.sb (se_idx (sb_var (pe_var (i := 0) rfl (.inl rfl))) (SP.sb sp_int))) (SP.sb sp_int))) (SP.sb sp_int))
    (sss_cons (ss_set sc__law_draw.nd rfl (.inl rfl) (se_bin bv_mod (SE.sb (se_bin bv_pow (SE.sb (se_bin bv_add (SE.sb (se_idx (sb_var (pe_var (i := 0) rfl (.inl rfl))) (SP.sb sp_int))) (SE.sb (se_bin bv_mul (SP.sb sp_int) (SE.sb (se_idx (sb_var (pe_var (i := 0) rfl (.inl rfl))) (SP.sb sp_int))))))) (SP.sb sp_int))) (SP.sb sp_int)))
    (sss_cons (ss_set sc__law_draw.nd rfl (.inl rfl) (se_bin bv_mod (SE.sb (se_bin bv_pow (SE.sb (se_bin bv_add (sb_var (pe_var (i := 3) rfl (.inl rfl))) (SE.sb (se_bin bv_mul (SP.sb sp_int) (SE.sb (se_idx (sb_var (pe_var (i := 0) rfl (.inl rfl))) (SP.sb sp_int))))))) (SP.sb sp_int))) (SP.sb sp_int)))
    (sss_one (ss_ret (se_bin bv_mod (SE.sb (se_bin bv_fdiv (sb_var (pe_var (i := 3) rfl (.inl rfl))) (SP.sb sp_int))) (sb_var (pe_var (i := 1) rfl (.inl rfl))))))))))
theorem sc__law_number : FnScope N__law_number ["word", "most"] (defScope s__law_number) := ⟨rfl, rfl, rfl, by decide +kernel, rfl, by decide +kernel, by decide +kernel⟩
theorem ok__law_number (G : Gs w mg) (D : FunD KC.K "_law_number" "_law_number" (defArgs s__law_number) (defBody s__law_number) (defScope s__law_number) [] [] fA fd) (g : mg "_law_number" = some (.ref fA)) :
    FnEG E0 P w KC.K mg base 1 "_law_number" (defArgs s__law_number) (defBody s__law_number) (defScope s__law_number) ["word", "most"] F__law_number := by
  refine ⟨⟨fA, fd, def_okG (N := N__law_number) (k := 0) D sc__law_number rfl fun cdv A outer s H XE hr nr => ?_, g, D⟩, fun _ _ _ _ _ _ us hl => match us, hl with | [_, _], _ => rfl⟩
  exact (sss_cons (ss_if (SW.st (sw_or (st_not (st_chain bv_le bv_le sp_int (SE.sp (se_callB cv_len rfl G.b_len bt_len (sab_cons (sb_var (pe_var (i := 0) rfl (.inl rfl))) sab_nil))) (sb_var (pe_var (i := 1) rfl (.inl rfl))))) (sw_or1 (st_cmp (bv_ne (hu_of hr)) (SE.sb (se_comp rfl sc__law_number.nd (blkOk_by (own := [("sign", 2)]) (N := N__law_number) (sc := defScope s__law_number) (by decide +kernel)) rfl rfl (si_seq (sp_var (pe_var (i := 0) rfl (.inl rfl)))) (fun _ _ _ _ _ => (sg_name sc__law_number.nd rfl (.inl rfl))) (fun _ _ _ _ _ => (sts_one (st_cmp bv_notIn (sb_var (pe_var (i := 2) rfl (.inl rfl))) (SP.sb sp_str) (by with_unfolding_all rfl)))) (fun _ _ _ _ _ => (sp_var (pe_var (i := 2) rfl (.inl rfl)))))) (SE.sb (se_lst sa_nil)) (nomark _))))) (sss_one (ss_ret (SP.se sp_non))) sss_nil)
    (sss_one (ss_ret (se_if (SW.st (sw_and (st_cmp bv_gt (SE.sb (se_callB cv_len rfl G.b_len bt_len (sab_cons (sb_var (pe_var (i := 0) rfl (.inl rfl))) sab_nil))) (SP.sb sp_int) (nomark _)) (sw_and1 (st_cmp (bv_eq (hu_of hr)) (SE.sb (se_idx (sb_var (pe_var (i := 0) rfl (.inl rfl))) (SP.sb sp_int))) (SP.sb sp_str) (nomark _))))) (SP.se sp_non) (se_callTy cv_intS rfl G.b_int bt_int (sab_cons (sb_var (pe_var (i := 0) rfl (.inl rfl))) sab_nil))))))
theorem sc__law_great : FnScope N__law_great ["rng"] (defScope s__law_great) := ⟨rfl, rfl, rfl, by decide +kernel, rfl, by decide +kernel, by decide +kernel⟩
theorem ok__law_great (G : Gs w mg) (h__law_draw : FnEG E0 P w KC.K mg base 1 "_law_draw" (defArgs s__law_draw) (defBody s__law_draw) (defScope s__law_draw) ["rng", "limit"] F__law_draw) (D : FunD KC.K "_law_great" "_law_great" (defArgs s__law_great) (defBody s__law_great) (defScope s__law_great) [] [] fA fd) (g : mg "_law_great" = some (.ref fA)) :
    FnEG E0 P w KC.K mg base 2 "_law_great" (defArgs s__law_great) (defBody s__law_great) (defScope s__law_great) ["rng"] F__law_great := by
  refine ⟨⟨fA, fd, def_okG (N := N__law_great) (k := 1) D sc__law_great rfl fun cdv A outer s H XE hr nr => ?_, g, D⟩, fun _ _ _ _ _ _ us hl => match us, hl with | [_], _ => rfl⟩
  exact (sss_cons (ss_set sc__law_great.nd rfl (.inl rfl) (se_lst (sa_cons (SE.sp (se_callG h__law_draw nr hr (by decide) rfl (sar_ref (pe_var (i := 0) rfl (.inl rfl)) (sar_val sp_int sar_nil)) rfl (arR_len (arV_len arN_len)))) (sa_cons (SE.sp (se_callG h__law_draw nr hr (by decide) rfl (sar_ref (pe_var (i := 0) rfl (.inl rfl)) (sar_val (SE.sp (se_bin bv_pow (SP.sb sp_int) (SP.sb sp_int))) sar_nil)) rfl (arR_len (arV_len arN_len)))) (sa_cons (SE.sp (se_callG h__law_draw nr hr (by decide) rfl (sar_ref (pe_var (i := 0) rfl (.inl rfl)) (sar_val (SE.sp (se_bin bv_pow (SP.sb sp_int) (SP.sb sp_int))) sar_nil)) rfl (arR_len (arV_len arN_len)))) (sa_cons (SE.sp (se_callG h__law_draw nr hr (by decide) rfl (sar_ref (pe_var (i := 0) rfl (.inl rfl)) (sar_val (SE.sp (se_bin bv_pow (SP.sb sp_int) (SP.sb sp_int))) sar_nil)) rfl (arR_len (arV_len arN_len)))) sa_nil))))))
    (sss_one (ss_ret (se_idx (SP.sb (sp_var (pe_var (i := 1) rfl (.inl rfl)))) (SE.sb (se_callG h__law_draw nr hr (by decide) rfl (sar_ref (pe_var (i := 0) rfl (.inl rfl)) (sar_val sp_int sar_nil)) rfl (arR_len (arV_len arN_len))))))))
theorem sc__law_due : FnScope N__law_due ["written"] (defScope s__law_due) := ⟨rfl, rfl, rfl, by decide +kernel, rfl, by decide +kernel, by decide +kernel⟩
theorem ok__law_due (G : Gs w mg) (h__law_number : FnEG E0 P w KC.K mg base 1 "_law_number" (defArgs s__law_number) (defBody s__law_number) (defScope s__law_number) ["word", "most"] F__law_number) (D : FunD KC.K "_law_due" "_law_due" (defArgs s__law_due) (defBody s__law_due) (defScope s__law_due) [] [] fA fd) (g : mg "_law_due" = some (.ref fA)) :
    FnEG E0 P w KC.K mg base 2 "_law_due" (defArgs s__law_due) (defBody s__law_due) (defScope s__law_due) ["written"] F__law_due := by
  refine ⟨⟨fA, fd, def_okG (N := N__law_due) (k := 1) D sc__law_due rfl fun cdv A outer s H XE hr nr => ?_, g, D⟩, fun _ _ _ _ _ _ us hl => match us, hl with | [_], _ => rfl⟩
  exact (sss_cons (ss_set sc__law_due.nd rfl (.inl rfl) (se_split (sb_var (pe_var (i := 0) rfl (.inl rfl))) (SP.sb sp_str)))
    (sss_cons (ss_setLc rfl sc__law_due.nd rfl rfl (sw_true rfl rfl rfl (by decide +kernel)) (blkOk_by (own := [("word", 3)]) (N := N__law_due) (sc := defScope s__law_due) (by decide +kernel)) rfl rfl (si_seq (SE.sp (se_slice (sb_var (pe_var (i := 1) rfl (.inl rfl))) (so_some (SP.sb sp_int)) so_none))) (fun _ _ _ _ _ => (sg_name sc__law_due.nd rfl (.inl rfl))) (fun _ _ _ _ _ => sts_nil) (fun _ _ _ _ _ => (SE.sp (se_callG h__law_number nr hr (by decide) rfl (sar_val (sp_var (pe_var (i := 3) rfl (.inl rfl))) (sar_val sp_int sar_nil)) rfl (arV_len (arV_len arN_len))))))
    (sss_cons (ss_if (SW.st (sw_or (st_cmp bv_in (SP.sb sp_non) (sb_var (pe_var (i := 2) rfl (.inl rfl))) (by with_unfolding_all rfl)) (sw_or1 (st_cmp (bv_ne (hu_of hr)) (SE.sb (se_callB cv_len rfl G.b_len bt_len (sab_cons (sb_var (pe_var (i := 2) rfl (.inl rfl))) sab_nil))) (SP.sb (sp_d3gN (hu_of hr) (by decide +kernel) (by decide +kernel) (by decide +kernel) (SE.sb (se_idx (sb_var (pe_var (i := 1) rfl (.inl rfl))) (SP.sb sp_int))) ⟨rfl, rfl, rfl, rfl⟩)) (nomark _))))) (sss_one (ss_ret (se_lst sa_nil))) sss_nil)
    (sss_one (ss_ret (se_if (SW.st (sw_or (st_cmp (bv_eq (hu_of hr)) (SE.sb (se_idx (sb_var (pe_var (i := 1) rfl (.inl rfl))) (SP.sb sp_int))) (SP.sb sp_str) (nomark _)) (sw_or1 (st_cmp bv_gt (SE.sb (se_idx (sb_var (pe_var (i := 2) rfl (.inl rfl))) (SP.sb sp_int))) (SP.sb sp_int) (nomark _))))) (se_lst (sa_cons (SE.sp (se_bin bv_add (SP.sb (sp_tup (sa_cons (SE.sp (se_idx (sb_var (pe_var (i := 1) rfl (.inl rfl))) (SP.sb sp_int))) sa_nil))) (SE.sb (se_callTy cv_tuple rfl G.b_tuple bt_tuple (sab_cons (sb_var (pe_var (i := 2) rfl (.inl rfl))) sab_nil))))) sa_nil)) (se_lst sa_nil)))))))
theorem sc__law_told : FnScope N__law_told ["written", "by_name"] (defScope s__law_told) := ⟨rfl, rfl, rfl, by decide +kernel, rfl, by decide +kernel, by decide +kernel⟩
theorem ok__law_told (G : Gs w mg) (hx_read_form : FnER E0 P w KC.K mg base 3 "read_form" (defArgs s_read_form) (defBody s_read_form) (defScope s_read_form) ["text"] FX_read_form) (D : FunD KC.K "_law_told" "_law_told" (defArgs s__law_told) (defBody s__law_told) (defScope s__law_told) [] [] fA fd) (g : mg "_law_told" = some (.ref fA)) :
    FnEG E0 P w KC.K mg base 4 "_law_told" (defArgs s__law_told) (defBody s__law_told) (defScope s__law_told) ["written", "by_name"] F__law_told := by
  refine ⟨⟨fA, fd, def_okG (N := N__law_told) (k := 3) D sc__law_told rfl fun cdv A outer s H XE hr nr => ?_, g, D⟩, fun _ _ _ _ _ _ us hl => match us, hl with | [_, _], _ => rfl⟩
  exact (sss_one (ss_try (i := 3) rfl rfl sc__law_told.nd rfl rfl ⟨rfl, by decide, .inl G.g_LineError⟩ (ksC G.m_InvalidForm_LineError (ksC G.m_Unreadable_LineError ksN)) (fun W pn xe tk po => (rss_one (rs_ret (re_lst1 (re_if (st_val (SP.se (sp_var (pe_var (i := 1) rfl (.inl rfl))))) (re_callK0 (ks := ["text"]) (is := [0]) hx_read_form nr hr (by decide) rfl tk (skr_val (sp_var (pe_var (i := 0) rfl (.inl rfl))) skr_nil) (arV_len arN_len) rfl rfl (fun _ _ _ _ _ _ ws hl => match ws, hl with | [_], _ => rfl)) (re_call hx_read_form nr hr (by decide) rfl tk (sar_val (sp_var (pe_var (i := 0) rfl (.inl rfl))) sar_nil) rfl (arV_len arN_len))))))) (fun a pn => (sss_cons (ss_set sc__law_told.nd rfl (.inl rfl) (SP.se (sp_isXT (us := [(excA "InvalidChain"), (excA "InvalidForm"), (excA "InvalidNumber"), (excA "InvalidPlace"), (excA "InvalidRun")]) (tab := [("InvalidForm", true), ("Unreadable", false)]) rfl G.b_isinstance (pe_var (i := 3) rfl (.inl rfl)) ⟨(clsN_own rfl G.g_InvalidChain), rfl, (clsN_own rfl G.g_InvalidForm), rfl, (clsN_own rfl G.g_InvalidNumber), rfl, (clsN_own rfl G.g_InvalidPlace), rfl, (clsN_own rfl G.g_InvalidRun), rfl, True.intro⟩ (by rw [sizeLine_eq]; exact Nat.le_of_ble_eq_true rfl) (ktC ⟨G.i_InvalidForm, G.ku_InvalidForm_InvalidChain_InvalidForm_InvalidNumber_InvalidPlace_InvalidRun⟩ (ktC ⟨G.i_Unreadable, G.ku_Unreadable_InvalidChain_InvalidForm_InvalidNumber_InvalidPlace_InvalidRun⟩ ktN)))))
    (sss_cons (ss_set sc__law_told.nd rfl (.inl rfl) (SP.se (SV.sp (sv_or (SE.sv (SP.se (sp_var (pe_var (i := 2) rfl (.inl rfl))))) (sv_one (SE.sv (SP.se (sp_isXT (us := [(excA "NothingToUndo"), (excA "UnknownName")]) (tab := [("InvalidForm", false), ("Unreadable", false)]) rfl G.b_isinstance (pe_var (i := 3) rfl (.inl rfl)) ⟨(clsN_own rfl G.g_NothingToUndo), rfl, (clsN_own rfl G.g_UnknownName), rfl, True.intro⟩ (by rw [sizeLine_eq]; exact Nat.le_of_ble_eq_true rfl) (ktC ⟨G.i_InvalidForm, G.ku_InvalidForm_NothingToUndo_UnknownName⟩ (ktC ⟨G.i_Unreadable, G.ku_Unreadable_NothingToUndo_UnknownName⟩ ktN))))))))))
    (sss_one (ss_ret (SP.se (sp_tup (sa_cons (sp_isX (cv := (excA "Unreadable")) (tab := [("InvalidForm", false), ("Unreadable", true)]) rfl G.b_isinstance (pe_var (i := 3) rfl (.inl rfl)) (clsN_own rfl G.g_Unreadable) (ktC ⟨G.i_InvalidForm, G.k_InvalidForm_Unreadable⟩ (ktC ⟨G.i_Unreadable, G.k_Unreadable_Unreadable⟩ ktN))) (sa_cons (sp_isX (cv := (.type "ValueError")) (tab := [("InvalidForm", true), ("Unreadable", true)]) rfl G.b_isinstance (pe_var (i := 3) rfl (.inl rfl)) (clsN_ty rfl G.b_ValueError bt_ValueError) (ktC ⟨G.i_InvalidForm, G.k_InvalidForm_ValueError⟩ (ktC ⟨G.i_Unreadable, G.k_Unreadable_ValueError⟩ ktN))) (sa_cons (sp_var (pe_var (i := 2) rfl (.inl rfl))) (sa_cons (sp_excV (pe_var (i := 3) rfl (.inl rfl)) (ksC G.f_InvalidForm (ksC G.f_Unreadable ksN))) sa_nil)))))))))))))
theorem sc__law_bent : FnScope N__law_bent ["rng", "line"] (defScope s__law_bent) := ⟨rfl, rfl, rfl, by decide +kernel, rfl, by decide +kernel, by decide +kernel⟩
theorem ok__law_bent (G : Gs w mg) (h__law_draw : FnEG E0 P w KC.K mg base 1 "_law_draw" (defArgs s__law_draw) (defBody s__law_draw) (defScope s__law_draw) ["rng", "limit"] F__law_draw) (D : FunD KC.K "_law_bent" "_law_bent" (defArgs s__law_bent) (defBody s__law_bent) (defScope s__law_bent) [] [] fA fd) (g : mg "_law_bent" = some (.ref fA)) :
    FnEG E0 P w KC.K mg base 2 "_law_bent" (defArgs s__law_bent) (defBody s__law_bent) (defScope s__law_bent) ["rng", "line"] F__law_bent := by
  refine ⟨⟨fA, fd, def_okG (N := N__law_bent) (k := 1) D sc__law_bent rfl fun cdv A outer s H XE hr nr => ?_, g, D⟩, fun _ _ _ _ _ _ us hl => match us, hl with | [_, _], _ => rfl⟩
  exact (sss_cons (ss_set sc__law_bent.nd rfl (.inl rfl) (se_split (sb_var (pe_var (i := 1) rfl (.inl rfl))) (SP.sb sp_str)))
    (sss_cons (ss_par rfl sc__law_bent.nd rfl rfl (by decide) rfl rfl (sas_cons (se_callG h__law_draw nr hr (by decide) rfl (sar_ref (pe_var (i := 0) rfl (.inl rfl)) (sar_val (SE.sp (se_callB cv_len rfl G.b_len bt_len (sab_cons (sb_var (pe_var (i := 2) rfl (.inl rfl))) sab_nil))) sar_nil)) rfl (arR_len (arV_len arN_len))) (sas_cons (se_callG h__law_draw nr hr (by decide) rfl (sar_ref (pe_var (i := 0) rfl (.inl rfl)) (sar_val sp_int sar_nil)) rfl (arR_len (arV_len arN_len))) sas_nil)) rfl)
    (sss_cons (ss_if (st_cmp (bv_eq (hu_of hr)) (sb_var (pe_var (i := 4) rfl (.inl rfl))) (SP.sb sp_int) (nomark _)) (sss_one (ss_ret (se_join (SP.sb sp_str) (SE.sb (se_bin bv_add (SE.sb (se_slice (sb_var (pe_var (i := 2) rfl (.inl rfl))) so_none (so_some (sb_var (pe_var (i := 3) rfl (.inl rfl)))))) (SE.sb (se_slice (sb_var (pe_var (i := 2) rfl (.inl rfl))) (so_some (SE.sb (se_bin bv_add (sb_var (pe_var (i := 3) rfl (.inl rfl))) (SP.sb sp_int)))) so_none))))))) sss_nil)
    (sss_cons (ss_if (st_cmp (bv_eq (hu_of hr)) (sb_var (pe_var (i := 4) rfl (.inl rfl))) (SP.sb sp_int) (nomark _)) (sss_one (ss_ret (se_join (SP.sb sp_str) (SE.sb (se_bin bv_add (SE.sb (se_bin bv_add (SE.sb (se_slice (sb_var (pe_var (i := 2) rfl (.inl rfl))) so_none (so_some (sb_var (pe_var (i := 3) rfl (.inl rfl)))))) (SE.sb (se_lst (sa_cons (SE.sp (se_callTy cv_str rfl G.b_str bt_str (sab_cons (SE.sb (se_callG h__law_draw nr hr (by decide) rfl (sar_ref (pe_var (i := 0) rfl (.inl rfl)) (sar_val sp_int sar_nil)) rfl (arR_len (arV_len arN_len)))) sab_nil))) sa_nil))))) (SE.sb (se_slice (sb_var (pe_var (i := 2) rfl (.inl rfl))) (so_some (sb_var (pe_var (i := 3) rfl (.inl rfl)))) so_none))))))) sss_nil)
    (sss_cons (ss_if (st_cmp (bv_eq (hu_of hr)) (sb_var (pe_var (i := 4) rfl (.inl rfl))) (SP.sb sp_int) (nomark _)) (sss_cons (ss_set sc__law_bent.nd rfl (.inl rfl) (se_lst (sa_cons sp_str (sa_cons sp_str (sa_cons sp_str (sa_cons sp_str (sa_cons sp_str (sa_cons sp_str (sa_cons sp_str (sa_cons sp_str (sa_cons sp_str (sa_cons sp_str (sa_cons sp_str (sa_cons (SE.sp (se_bin bv_mul (SP.sb sp_str) (SP.sb sp_int))) (sa_cons (SE.sp (se_bin bv_mul (SP.sb sp_str) (SP.sb sp_int))) (sa_cons sp_str (sa_cons sp_str sa_nil)))))))))))))))))
    (sss_cons (ss_setI (pe_var (i := 2) rfl (.inl rfl)) (SE.sp (se_idx (SP.sb (sp_var (pe_var (i := 5) rfl (.inl rfl)))) (SE.sb (se_callG h__law_draw nr hr (by decide) rfl (sar_ref (pe_var (i := 0) rfl (.inl rfl)) (sar_val sp_int sar_nil)) rfl (arR_len (arV_len arN_len)))))) (sb_var (pe_var (i := 3) rfl (.inl rfl))))
    (sss_one (ss_ret (se_join (SP.sb sp_str) (sb_var (pe_var (i := 2) rfl (.inl rfl)))))))) sss_nil)
    (sss_cons (ss_set sc__law_bent.nd rfl (.inl rfl) (SP.se sp_str))
    (sss_cons (ss_for PassesOwn.never rfl (si_range1 rfl G.b_range (sab_cons (SE.sb (se_bin bv_add (SP.sb sp_int) (SE.sb (se_callG h__law_draw nr hr (by decide) rfl (sar_ref (pe_var (i := 0) rfl (.inl rfl)) (sar_val sp_int sar_nil)) rfl (arR_len (arV_len arN_len)))))) sab_nil)) (sg_name sc__law_bent.nd rfl (.inl rfl)) (sss_cons (ss_set sc__law_bent.nd rfl (.inl rfl) (se_callG h__law_draw nr hr (by decide) rfl (sar_ref (pe_var (i := 0) rfl (.inl rfl)) (sar_val (SE.sp (se_bin bv_add (SE.sb (se_callB cv_len rfl G.b_len bt_len (sab_cons (sb_var (pe_var (i := 1) rfl (.inl rfl))) sab_nil))) (SP.sb sp_int))) sar_nil)) rfl (arR_len (arV_len arN_len))))
    (sss_cons (ss_set sc__law_bent.nd rfl (.inl rfl) (se_bin bv_mul (SE.sb (se_idx (SP.sb (sp_var (pe_var (i := 6) rfl (.inl rfl)))) (SE.sb (se_callG h__law_draw nr hr (by decide) rfl (sar_ref (pe_var (i := 0) rfl (.inl rfl)) (sar_val (SE.sp (se_callB cv_len rfl G.b_len bt_len (sab_cons (sb_var (pe_var (i := 6) rfl (.inl rfl))) sab_nil))) sar_nil)) rfl (arR_len (arV_len arN_len)))))) (SE.sb (se_callG h__law_draw nr hr (by decide) rfl (sar_ref (pe_var (i := 0) rfl (.inl rfl)) (sar_val sp_int sar_nil)) rfl (arR_len (arV_len arN_len))))))
    (sss_one (ss_set sc__law_bent.nd rfl (.inl rfl) (se_bin bv_add (SE.sb (se_bin bv_add (SE.sb (se_slice (sb_var (pe_var (i := 1) rfl (.inl rfl))) so_none (so_some (sb_var (pe_var (i := 8) rfl (.inl rfl)))))) (sb_var (pe_var (i := 9) rfl (.inl rfl))))) (SE.sb (se_slice (SP.sb (sp_var (pe_var (i := 1) rfl (.inl rfl)))) (so_some (SE.sb (se_bin bv_add (SP.sb (sp_var (pe_var (i := 8) rfl (.inl rfl)))) (SE.sb (se_callG h__law_draw nr hr (by decide) rfl (sar_ref (pe_var (i := 0) rfl (.inl rfl)) (sar_val sp_int sar_nil)) rfl (arR_len (arV_len arN_len))))))) so_none))))))))
    (sss_one (ss_ret (se_mov (pe_var (i := 1) rfl (.inl rfl))))))))))))
theorem sc__law_right : FnScope N__law_right ["one"] (defScope s__law_right) := ⟨rfl, rfl, rfl, by decide +kernel, rfl, by decide +kernel, by decide +kernel⟩
theorem ok__law_right (G : Gs w mg) (h__law_due : FnEG E0 P w KC.K mg base 2 "_law_due" (defArgs s__law_due) (defBody s__law_due) (defScope s__law_due) ["written"] F__law_due) (h__law_told : FnEG E0 P w KC.K mg base 4 "_law_told" (defArgs s__law_told) (defBody s__law_told) (defScope s__law_told) ["written", "by_name"] F__law_told) (D : FunD KC.K "_law_right" "_law_right" (defArgs s__law_right) (defBody s__law_right) (defScope s__law_right) [] [] fA fd) (g : mg "_law_right" = some (.ref fA)) :
    FnEG E0 P w KC.K mg base 5 "_law_right" (defArgs s__law_right) (defBody s__law_right) (defScope s__law_right) ["one"] F__law_right := by
  refine ⟨⟨fA, fd, def_okG (N := N__law_right) (k := 4) D sc__law_right rfl fun cdv A outer s H XE hr nr => ?_, g, D⟩, fun _ _ _ _ _ _ us hl => match us, hl with | [_], _ => rfl⟩
  exact (sss_cons (ss_set sc__law_right.nd rfl (.inl rfl) (se_callG h__law_due nr hr (by decide) rfl (sar_val (sp_var (pe_var (i := 0) rfl (.inl rfl))) sar_nil) rfl (arV_len arN_len)))
    (sss_cons (ss_for PassesOwn.never rfl (si_seq (SE.sp (se_lst (sa_cons sp_bl (sa_cons sp_bl sa_nil))))) (sg_name sc__law_right.nd rfl (.inl rfl)) (sss_cons (ss_set sc__law_right.nd rfl (.inl rfl) (se_callG h__law_told nr hr (by decide) rfl (sar_val (sp_var (pe_var (i := 0) rfl (.inl rfl))) (sar_val (sp_var (pe_var (i := 2) rfl (.inl rfl))) sar_nil)) rfl (arV_len (arV_len arN_len))))
    (sss_one (ss_if (SW.st (sw_or (SW.st (sw_and (st_cmp (bv_eq (hu_of hr)) (sb_var (pe_var (i := 1) rfl (.inl rfl))) (SE.sb (se_lst sa_nil)) (nomark _)) (sw_and1 (st_cmp (bv_ne (hu_of hr)) (sb_var (pe_var (i := 3) rfl (.inl rfl))) (SP.sb (sp_tup (sa_cons sp_bl (sa_cons sp_bl (sa_cons sp_bl (sa_cons (sp_var (pe_var (i := 0) rfl (.inl rfl))) sa_nil)))))) (nomark _))))) (sw_or1 (SW.st (sw_and (st_cmp (bv_ne (hu_of hr)) (sb_var (pe_var (i := 1) rfl (.inl rfl))) (SE.sb (se_lst sa_nil)) (nomark _)) (sw_and1 (st_cmp (bv_ne (hu_of hr)) (SE.sb (se_callB (cv_repr nr (hu_of hr)) rfl G.b_repr bt_repr (sab_cons (sb_var (pe_var (i := 3) rfl (.inl rfl))) sab_nil))) (SE.sb (se_callB (cv_repr nr (hu_of hr)) rfl G.b_repr bt_repr (sab_cons (sb_var (pe_var (i := 1) rfl (.inl rfl))) sab_nil))) (nomark _)))))))) (sss_one (ss_ret (SP.se sp_bl))) sss_nil))))
    (sss_one (ss_ret (SP.se sp_bl)))))
theorem sc_law : FnScope N_law ["script"] (defScope s_law) := ⟨rfl, rfl, rfl, by decide +kernel, rfl, by decide +kernel, by decide +kernel⟩
theorem ok_law (G : Gs w mg) (h__law_rng : FnEG E0 P w KC.K mg base 1 "_law_rng" (defArgs s__law_rng) (defBody s__law_rng) (defScope s__law_rng) ["script"] F__law_rng) (h__law_draw : FnEG E0 P w KC.K mg base 1 "_law_draw" (defArgs s__law_draw) (defBody s__law_draw) (defScope s__law_draw) ["rng", "limit"] F__law_draw) (h__law_great : FnEG E0 P w KC.K mg base 2 "_law_great" (defArgs s__law_great) (defBody s__law_great) (defScope s__law_great) ["rng"] F__law_great) (h__law_right : FnEG E0 P w KC.K mg base 5 "_law_right" (defArgs s__law_right) (defBody s__law_right) (defScope s__law_right) ["one"] F__law_right) (h__law_bent : FnEG E0 P w KC.K mg base 2 "_law_bent" (defArgs s__law_bent) (defBody s__law_bent) (defScope s__law_bent) ["rng", "line"] F__law_bent) (D : FunD KC.K "law" "law" (defArgs s_law) (defBody s_law) (defScope s_law) [] [] fA fd) (g : mg "law" = some (.ref fA)) :
    FnEG E0 P w KC.K mg base 6 "law" (defArgs s_law) (defBody s_law) (defScope s_law) ["script"] F_law := by
  refine ⟨⟨fA, fd, def_okG (N := N_law) (k := 5) D sc_law rfl fun cdv A outer s H XE hr nr => ?_, g, D⟩, fun _ _ _ _ _ _ us hl => match us, hl with | [_], _ => rfl⟩
  exact (sss_cons (ss_set sc_law.nd rfl (.inr rfl) (se_callG h__law_rng nr hr (by decide) rfl (sar_ref (pe_var (i := 0) rfl (.inl rfl)) sar_nil) rfl (arR_len arN_len)))
    (sss_cons (ss_for PassesOwn.never rfl (si_range1 rfl G.b_range (sab_cons (SE.sb (se_bin bv_add (SP.sb sp_int) (SE.sb (se_callB (cv_min2 rfl) rfl G.b_min bt_min (sab_cons (SP.sb sp_int) (sab_cons (SP.sb (sp_scLen (pe_var (i := 0) rfl (.inl rfl)) rfl G.b_len)) sab_nil)))))) sab_nil)) (sg_name sc_law.nd rfl (.inl rfl)) (sss_cons (ss_asg (SE.sp (se_idx (SE.sb (se_lst (sa_cons (sp_tup (sa_cons sp_str (sa_cons sp_int sa_nil))) (sa_cons (sp_tup (sa_cons sp_str (sa_cons sp_int sa_nil))) (sa_cons (sp_tup (sa_cons sp_str (sa_cons sp_int sa_nil))) sa_nil))))) (SE.sb (se_callG h__law_draw nr hr (by decide) rfl (sar_ref (pe_var (i := 1) rfl (.inr (.inl rfl))) (sar_val sp_int sar_nil)) rfl (arR_len (arV_len arN_len)))))) (sg_tup rfl (sgs_cons (sg_name sc_law.nd rfl (.inl rfl)) (sgs_cons (sg_name sc_law.nd rfl (.inl rfl)) sgs_nil))))
    (sss_cons (ss_set sc_law.nd rfl (.inl rfl) (se_join (SP.sb sp_str) (SE.sb (se_bin bv_add (SE.sb (se_lst (sa_cons (sp_var (pe_var (i := 3) rfl (.inl rfl))) sa_nil))) (SE.sb (se_comp rfl sc_law.nd (blkOk_by (own := [("turn", 6)]) (N := N_law) (sc := defScope s_law) (by decide +kernel)) rfl rfl (si_range1 rfl G.b_range (sab_cons (sb_var (pe_var (i := 4) rfl (.inl rfl))) sab_nil)) (fun _ _ _ _ _ => (sg_name sc_law.nd rfl (.inl rfl))) (fun _ _ _ _ _ => sts_nil) (fun _ _ _ _ _ => (SE.sp (se_callTy cv_str rfl G.b_str bt_str (sab_cons (SE.sb (se_callG h__law_great nr hr (by decide) rfl (sar_ref (pe_var (i := 1) rfl (.inr (.inl rfl))) sar_nil) rfl (arR_len arN_len))) sab_nil))))))))))
    (sss_one (ss_for PassesOwn.never rfl (si_range1 rfl G.b_range (sab_cons (SP.sb sp_int) sab_nil)) (sg_name sc_law.nd rfl (.inl rfl)) (sss_one (ss_if (st_not (st_val (se_callG h__law_right nr hr (by decide) rfl (sar_val (SE.sp (se_if (st_cmp (bv_eq (hu_of hr)) (sb_var (pe_var (i := 6) rfl (.inl rfl))) (SP.sb sp_int) (nomark _)) (SP.se (sp_var (pe_var (i := 5) rfl (.inl rfl)))) (se_callG h__law_bent nr hr (by decide) rfl (sar_ref (pe_var (i := 1) rfl (.inr (.inl rfl))) (sar_val (sp_var (pe_var (i := 5) rfl (.inl rfl))) sar_nil)) rfl (arR_len (arV_len arN_len))))) sar_nil) rfl (arV_len arN_len)))) (sss_one (ss_ret (SP.se sp_bl))) sss_nil)))))))
    (sss_cons (ss_set sc_law.nd rfl (.inl rfl) (se_lst (sa_cons sp_str (sa_cons sp_str sa_nil))))
    (sss_cons (ss_set sc_law.nd rfl (.inl rfl) (se_bin bv_add (sb_var (pe_var (i := 7) rfl (.inl rfl))) (SE.sb (se_lst (sa_cons sp_str (sa_cons sp_str (sa_cons sp_str (sa_cons sp_str (sa_cons sp_str (sa_cons sp_str (sa_cons sp_str (sa_cons sp_str (sa_cons sp_str sa_nil)))))))))))))
    (sss_cons (ss_set sc_law.nd rfl (.inl rfl) (se_bin bv_add (sb_var (pe_var (i := 7) rfl (.inl rfl))) (SE.sb (se_lst (sa_cons sp_str (sa_cons sp_str (sa_cons sp_str (sa_cons sp_str (sa_cons sp_str (sa_cons sp_str sa_nil))))))))))
    (sss_cons (ss_set sc_law.nd rfl (.inl rfl) (se_bin bv_add (sb_var (pe_var (i := 7) rfl (.inl rfl))) (SE.sb (se_lst (sa_cons sp_str (sa_cons sp_str (sa_cons sp_str sa_nil)))))))
    (sss_one (ss_ret (se_cmp (bv_eq (hu_of hr)) (SE.sb (se_comp rfl sc_law.nd (blkOk_by (own := [("one", 8)]) (N := N_law) (sc := defScope s_law) (by decide +kernel)) rfl rfl (si_seq (sp_var (pe_var (i := 7) rfl (.inl rfl)))) (fun _ _ _ _ _ => (sg_name sc_law.nd rfl (.inl rfl))) (fun _ _ _ _ _ => (sts_one (st_not (st_val (se_callG h__law_right nr hr (by decide) rfl (sar_val (sp_var (pe_var (i := 8) rfl (.inl rfl))) sar_nil) rfl (arV_len arN_len)))))) (fun _ _ _ _ _ => (sp_var (pe_var (i := 8) rfl (.inl rfl)))))) (SE.sb (se_lst sa_nil)) (nomark _))))))))))
end
end K52

/-! text T52A -/
set_option maxHeartbeats 2000000
namespace K52
open PySem IX
/-! ### runs: groups and a rest; this law's own conversion -/
def eG (gs : List (Int × Int)) : List PyData := gs.map fun p => .tuple [.int p.1, .int p.2]
def eR (gs : List (Int × Int)) (r : Int) : PyData := .tuple [.list (eG gs), .int r]
def redStep (f : List (Int × Int)) (p : Int × Int) : List (Int × Int) := match f.getLast? with
  | some q => if 0 < p.1 then (if q.2 = p.2 then f.dropLast ++ [(q.1 + p.1, p.2)] else f ++ [p]) else f
  | none => if 0 < p.1 then [p] else []
def reduced (gs : List (Int × Int)) : List (Int × Int) := gs.foldl redStep []
theorem redStep_len (f : List (Int × Int)) (p : Int × Int) : (redStep f p).length ≤ f.length + 1 := by
  unfold redStep
  split
  · rename_i q h
    split
    · split
      · have := List.length_dropLast (xs := f); simp
      · simp
    · omega
  · split <;> simp
/-! ### units, the run that a form makes -/
def u1 (b a : Int) (p : Int × Int) : Int := p.1 * ((if b < p.2 then p.2 - b else 0) + a + 1)
def unitsZ (gs : List (Int × Int)) (r b a : Int) : Int := (gs.map (u1 b a)).sum + r
def Bd (n : Nat) (i : Int) : Prop := i.natAbs < 2 ^ n
def BdG (n : Nat) (gs : List (Int × Int)) : Prop := ∀ p ∈ gs, Bd n p.1 ∧ Bd n p.2
theorem h2 {n : Nat} : 2 ^ (n + 1) = 2 * 2 ^ n := by rw [Nat.pow_succ]; omega
theorem h4 {n : Nat} : 2 ^ (n + 2) = 4 * 2 ^ n := by rw [Nat.pow_succ, Nat.pow_succ]; omega
theorem h8 {n : Nat} : 2 ^ (n + 3) = 8 * 2 ^ n := by rw [Nat.pow_succ, Nat.pow_succ, Nat.pow_succ]; omega
theorem one_le2 (n : Nat) : 1 ≤ 2 ^ n := Nat.pos_of_ne_zero (by simp)
theorem xSeq_nxt {x y : EvS} {env e : SEnv} (h : x env = some (.nxt e)) : xSeq x y env = y e := by simp only [e_xSeq, h]
theorem runDef_ret {N : Nat} {x : EvS} {args : List Slot} {r : Slot} {e : SEnv} {outs : List Slot} (h : x (args ++ List.replicate (N - args.length) .und) = some (.ret r e)) (ho : outsOf args e = some outs) : runDef N x args = some (r, outs) := by
  rw [runDef_def, h]; simp [ho]
theorem h2_ {n : Nat} : (2 : Nat) ^ (n + 1) = 2 * 2 ^ n := by rw [Nat.pow_succ]; omega
/-! draws of a rng: a list of its digits, its seed, how often it was mixed -/
structure Rng (T : Nat) (l : List PyData) : Prop where
  ex : ∃ x s t : Int, l = [.int x, .int s, .int t] ∧ 0 ≤ x ∧ 0 ≤ s ∧ s < 2 ^ 61 ∧ 0 ≤ t ∧ t ≤ T
theorem Rng.up {T T' : Nat} {l : List PyData} (h : Rng T l) (hl : T ≤ T') : Rng T' l := by
  obtain ⟨x, s, t, e, h1, h2, h3, h4, h5⟩ := h.ex
  exact ⟨x, s, t, e, h1, h2, h3, h4, by omega⟩
theorem rdraw_hi {x s t m : Int} (hx : 0 < x) (hm : 0 < m) (hm2 : m < 2 ^ 200) : F__law_draw [.own true [.int x, .int s, .int t], .pur (.int m)] = some (.pur (.int (x % m)), [.own true [.int (x / m), .int s, .int t], .und]) := by
  have d1 : divOk x m = true := divOk_s hm (by omega)
  have i0 : L2.ixN 3 0 = some 0 := by decide
  simp [F__law_draw, runDef_def, x__law_draw, hx, hm, d1, i0, ownAt_def, sizeLine_eq]
def rmix (s t : Int) : Int := ((((s + 998244353 * t) ^ 3 % 162259276829213363391578010288127) + 32452843 * t) ^ 3 % 170141183460469231731687303715884105727) / 1048576
theorem rdraw_mix {s t m : Int} (hm : 0 < m) (hm2 : m < 2 ^ 200) (hs : 0 ≤ s) (hs2 : s < 2 ^ 61) (ht : 0 ≤ t) (ht2 : t < 2 ^ 60) : F__law_draw [.own true [.int 0, .int s, .int t], .pur (.int m)] = some (.pur (.int (rmix s (t + 1) % m)), [.own true [.int 0, .int s, .int (t + 1)], .und]) := by
  have m1 : mulOk 998244353 (t + 1) = true := mulOk_of 40 70 (by decide) (by omega) (by decide) (by decide) (by decide)
  have m2 : mulOk 32452843 (t + 1) = true := mulOk_of 30 70 (by decide) (by omega) (by decide) (by decide) (by decide)
  have p1 : powOk (s + 998244353 * (t + 1)) 3 = true := powOk_of 120 (by omega) (by decide) (by decide)
  have b0 := Int.emod_lt_of_pos ((s + 998244353 * (t + 1)) ^ 3) (show (0 : Int) < 162259276829213363391578010288127 by decide)
  have b1 := Int.emod_nonneg ((s + 998244353 * (t + 1)) ^ 3) (show (162259276829213363391578010288127 : Int) ≠ 0 by decide)
  have p2 : powOk ((s + 998244353 * (t + 1)) ^ 3 % 162259276829213363391578010288127 + 32452843 * (t + 1)) 3 = true := powOk_of 120 (by omega) (by decide) (by decide)
  have d1 : ∀ y, divOk y 1048576 = true := fun y => divOk_s (by decide) (by decide)
  have i2 : L2.ixN 3 2 = some 2 := by decide
  simp [F__law_draw, runDef_def, x__law_draw, m1, m2, p1, p2, d1, i2, hm, ownAt_def, sizeLine_eq, rmix]
theorem rdraw_ok {T : Nat} {l : List PyData} {m : Int} (h : Rng T l) (hm : 0 < m) (hm2 : m < 2 ^ 200) (hT : T < 2 ^ 60) :
    ∃ r l', F__law_draw [.own true l, .pur (.int m)] = some (.pur (.int r), [.own true l', .und]) ∧ 0 ≤ r ∧ r < m ∧ Rng (T + 1) l' := by
  obtain ⟨x, s, t, rfl, h1, h2, h3, h4, h5⟩ := h.ex
  by_cases c : 0 < x
  · exact ⟨_, _, rdraw_hi c hm hm2, Int.emod_nonneg _ (by omega), Int.emod_lt_of_pos _ hm, _, _, _, rfl, Int.ediv_nonneg h1 (by omega), h2, h3, h4, by omega⟩
  · obtain rfl : x = 0 := by omega
    exact ⟨_, _, rdraw_mix hm hm2 h2 h3 h4 (by omega), Int.emod_nonneg _ (by omega), Int.emod_lt_of_pos _ hm, _, _, _, rfl, by decide, h2, h3, by omega, by omega⟩
/-! the rng of a script -/
def ab (c : Int) : Int := if c < 0 then -c else c
def digS (x w : Int) : Int := if 10 ^ 18 ≤ w then x * 10 ^ 60 + w % 10 ^ 60 else x
def seedS (s c : Int) : Int := (s * 1000003 + c % 2305843009213693921 + 7) % 2305843009213693951
structure RB3 (n : Nat) (x s : Int) : Prop where
  x0 : 0 ≤ x
  x1 : x < 2 ^ (200 * n)
  s0 : 0 ≤ s
  s1 : s < 2 ^ 61
theorem dig_bd {P x w : Int} (h0 : 0 ≤ x) (h1 : x < P) : 0 ≤ digS x w ∧ digS x w < P * 2 ^ 200 := by
  have k1 := Int.emod_nonneg w (show (10 ^ 60 : Int) ≠ 0 by decide)
  have k2 := Int.emod_lt_of_pos w (show (0 : Int) < 10 ^ 60 by decide)
  generalize w % 10 ^ 60 = r at *
  unfold digS
  split <;> omega
theorem cell_bd {n : Nat} {x s : Int} (c w : Int) (h : RB3 n x s) : RB3 (n + 1) (digS x w) (seedS s c) := by
  have hn : (2 : Int) ^ (200 * (n + 1)) = 2 ^ (200 * n) * 2 ^ 200 := by rw [Nat.mul_add, Int.pow_add]
  have d := dig_bd (w := w) h.x0 h.x1
  rw [← hn] at d
  have k1 := Int.emod_nonneg (s * 1000003 + c % 2305843009213693921 + 7) (show (2305843009213693951 : Int) ≠ 0 by decide)
  have k2 := Int.emod_lt_of_pos (s * 1000003 + c % 2305843009213693921 + 7) (show (0 : Int) < 2305843009213693951 by decide)
  exact ⟨d.1, d.2, k1, by unfold seedS; omega⟩
theorem rng_turn {n : Nat} {S : Slot} {x s c : Int} {s4 : Slot} (h : RB3 n x s) (hn : n ≤ 63) (p4 : s4.par = false) :
    fb__law_rng_1 [S, .pur (.int x), .pur (.int s), .pur (.int c), s4] = some (.nxt [S, .pur (.int (digS x (ab c))), .pur (.int (seedS s c)), .pur (.int c), .pur (.int (ab c))]) := by
  obtain ⟨h1, h2, h3, h4⟩ := h
  have po : powOk 10 18 = true := by decide +kernel
  have po2 : powOk 10 60 = true := by decide +kernel
  have m1 : mulOk s 1000003 = true := mulOk_of 61 20 (by omega) (by decide) (by decide) (by decide) (by decide)
  have m2 : mulOk x (10 ^ 60) = true := mulOk_of (200 * n + 1) 200 (by
    have : x.natAbs < 2 ^ (200 * n) := by
      have e : ((2 ^ (200 * n) : Nat) : Int) = 2 ^ (200 * n) := by simp
      omega
    have := h2_ (n := 200 * n)
    omega) (by decide) (by omega) (by omega) (by decide)
  refine (xSeq_nxt (e := [S, .pur (.int x), .pur (.int s), .pur (.int c), .pur (.int (ab c))]) (by simp [p4, ab])).trans ?_
  generalize ab c = w
  clear h1 h2 h3 h4
  simp at m2
  refine (xSeq_nxt (e := [S, .pur (.int (digS x w)), .pur (.int s), .pur (.int c), .pur (.int w)]) ?_).trans ?_
  · unfold digS
    by_cases z : (10 : Int) ^ 18 ≤ w
    · rw [if_pos z]
      simp at z
      simp [po, po2, m2, z]
    · rw [if_neg z]
      simp at z
      have z3 : ¬ (1000000000000000000 : Int) ≤ w := by omega
      simp [po, z3]
  · generalize digS x w = y
    simp [m1, seedS]
theorem rng_loop {S : Slot} : ∀ (cs : List Int) (n : Nat) (x s : Int) (s3 s4 : Slot), RB3 n x s → n + cs.length ≤ 63 → s3.par = false → s4.par = false →
    ∃ y r t3 t4, forL (gN 3) fb__law_rng_1 (cs.map PyData.int) [S, .pur (.int x), .pur (.int s), s3, s4] = some (.nxt [S, .pur (.int y), .pur (.int r), t3, t4]) ∧ 0 ≤ y ∧ 0 ≤ r ∧ r < 2 ^ 61
  | [], n, x, s, s3, s4, h, hl, p3, p4 => ⟨x, s, s3, s4, rfl, h.x0, h.s0, h.s1⟩
  | c :: cs, n, x, s, s3, s4, h, hl, p3, p4 => by
    rw [List.length_cons] at hl
    have e1 := rng_turn (S := S) (c := c) h (by omega) p4
    obtain ⟨y, r, t3, t4, e2, b⟩ := rng_loop (S := S) cs (n + 1) (digS x (ab c)) (seedS s c) (.pur (.int c)) (.pur (.int (ab c))) (cell_bd c (ab c) h) (by omega) rfl rfl
    refine ⟨y, r, t3, t4, ?_, b⟩
    have g0 : gN 3 (.int c) [S, .pur (.int x), .pur (.int s), s3, s4] = some [S, .pur (.int x), .pur (.int s), .pur (.int c), s4] := by simp [p3]
    rw [List.map_cons, e_for1, g0]
    simp only [e1]
    exact e2
theorem cutN {α : Type} (xs : List α) (n : Nat) : cutD xs none (some (n : Int)) = xs.take n := by
  unfold cutD
  rw [HT.sIx_nat, HT.sIx_none]
  simp
theorem rng_ok (ns : List Int) (h : ns.length ≤ 63) : ∃ l, F__law_rng [.ext true 2 (.tuple (ns.map PyData.int))] = some (.own false l, [.ext true 2 (.tuple (ns.map PyData.int))]) ∧ Rng 0 l := by
  obtain ⟨y, r, t3, t4, e, y0, r0, r1⟩ := rng_loop (S := .ext true 2 (.tuple (ns.map PyData.int))) ns 0 0 88675123 .und .und ⟨by decide, by decide, by decide, by decide⟩ (by omega) rfl rfl
  refine ⟨[.int y, .int r, .int 0], ?_, y, r, 0, rfl, y0, r0, r1, by decide, by decide⟩
  have hs : (ns.map PyData.int).length ≤ 63 := by rw [List.length_map]; exact h
  generalize ns.map PyData.int = ds at *
  refine runDef_ret (x := x__law_rng) (N := 5) (e := [.ext true 2 (.tuple ds), .pur (.int y), .pur (.int r), t3, t4]) ?_ (by simp)
  refine (xSeq_nxt (e := [.ext true 2 (.tuple ds), .pur (.int 0), .pur (.int 88675123), .und, .und]) (by simp [sizeLine_eq])).trans ?_
  refine (xSeq_nxt (e := [.ext true 2 (.tuple ds), .pur (.int y), .pur (.int r), t3, t4]) ?_).trans ?_
  · rw [← e]
    have ht : ds.take 63 = ds := List.take_of_length_le hs
    have hcut : cutD ds none (some 63) = ds := (cutN ds 63).trans ht
    simp [evScSl, scrAt_def, sizeLine_eq, hcut]
  · simp [sizeLine_eq]
abbrev chS (c : Nat) : Str := ⟨#[c]⟩
/-! numbers read out of texts -/
theorem digits_cps : ("0123456789" : Str).cps.toList = [48, 49, 50, 51, 52, 53, 54, 55, 56, 57] := by decide +kernel
def isDig (c : Nat) : Bool := decide (48 ≤ c ∧ c ≤ 57)
theorem dig_in (c : Nat) : opIn (.str (chS c)) (.str "0123456789") = some (.pur (.bool (isDig c))) := by
  show (match fInC false (.str ⟨#[c]⟩) (.str "0123456789") with
    | some r => some r
    | none => orF (fInS false) (fIn false) (.str ⟨#[c]⟩) (.str "0123456789")) = _
  have e : fInC false (.str ⟨#[c]⟩) (.str ("0123456789" : Str)) = some (.pur (.bool (decide (c ∈ ("0123456789" : Str).cps.toList)))) := rfl
  rw [e, digits_cps]
  simp only [isDig]
  congr 3
  rw [Bool.eq_iff_iff]
  simp
  omega
def numOk (l : List Nat) : Bool := decide (1 ≤ l.length) && decide (l.length ≤ 60) && l.all isDig && (decide (l.length = 1) || decide (l.head? ≠ some 48))
end K52

/-! text T52B -/
set_option maxHeartbeats 2000000
namespace K52
open PySem IX
def numD (l : List Nat) : PyData := if numOk l = true then .int ((PySem.NumText.digitsVal l : Nat) : Int) else .none
theorem len_w (w : Str) : w.length = w.cps.toList.length := by simp [Str.length]
theorem all_dig (l : List Nat) : cAll [.list (l.map fun c => PyData.bool (isDig c))] = some (.pur (.bool (l.all isDig))) := by
  have e : (l.map fun c => PyData.bool (isDig c)) = (l.map isDig).map .bool := by simp
  rw [e, cAll_of]
  congr 3
  rw [List.all_map]; rfl
theorem str_ext {a b : Str} (h : a.cps.toList = b.cps.toList) : a = b := by
  obtain ⟨⟨a⟩⟩ := a; obtain ⟨⟨b⟩⟩ := b
  have h : a = b := h
  rw [h]
theorem zero_cps : ("0" : Str).cps.toList = [48] := by decide +kernel
theorem eq0 (w : Str) : opEq (.str w) (.str "0") = some (.pur (.bool (decide (w.cps.toList = [48])))) := by
  rw [e_eq_sc (by rfl)]
  have : PyData.eqv (.str w) (.str "0") = decide (w.cps.toList = [48]) := by
    rw [← zero_cps]
    simp only [PyData.eqv]
    rw [Bool.eq_iff_iff]
    simp only [decide_eq_true_eq, beq_iff_eq]
    exact ⟨fun h => by rw [h], str_ext⟩
  rw [this]
theorem ne0 (w : Str) : opNe (.str w) (.str "0") = some (.pur (.bool (!decide (w.cps.toList = [48])))) := by
  rw [e_ne_sc (by rfl)]
  have : PyData.eqv (.str w) (.str "0") = decide (w.cps.toList = [48]) := by
    rw [← zero_cps]
    simp only [PyData.eqv]
    rw [Bool.eq_iff_iff]
    simp only [decide_eq_true_eq, beq_iff_eq]
    exact ⟨fun h => by rw [h], str_ext⟩
  rw [this]
theorem first_ok {w : Str} {c : Nat} {cs : List Nat} (h : w.cps.toList = c :: cs) (hl : w.length ≤ 200000) : fIdx (.str w) (.int 0) = some (.pur (.str (chS c))) := by
  have hz : w.length ≤ 16777216 := by omega
  have e : L2.atI w.cps.toList 0 = some c := by
    unfold L2.atI L2.ixN
    rw [h]; simp
  simp [e, hz, sizeLine_eq]
theorem int_ok {w : Str} (h : w.cps.toList.all isDig = true) (h1 : w.cps.toList ≠ []) (hl : w.length ≤ 60) : cIntS [.str w] = some (.pur (.int ((PySem.NumText.digitsVal w.cps.toList : Nat) : Int))) := by
  rw [e_intS, if_pos (by omega), PySem.intText_digits (fun c hc => by
    have := List.all_eq_true.mp h c hc
    simpa [isDig] using this) h1 (by omega)]
  rfl
theorem len_ok {w : Str} (hl : w.length ≤ 200000) : cLen [.str w] = some (.pur (.int (w.cps.toList.length : Int))) := by
  rw [e_lenS, if_pos (by rw [sizeLine_eq]; omega), len_w]
theorem number_in_ok {w : Str} (hl : w.length ≤ 200000) : F_number_in [.pur (.str w)] = some (.pur (numD w.cps.toList), [.und]) := by
  have hlen : w.cps.toList.length ≤ 200000 := by rw [← len_w]; exact hl
  have hc := compL_enc (vs := [1]) (g := gN 1) (a := ce_number_in_1) (env := [.pur (.str w), .und]) (fun c => PyData.str (chS c)) (fun c => PyData.bool (isDig c)) w.cps.toList [] (by rw [sizeLine_eq, List.length_nil]; omega) (fun c _ => by
    have d := dig_in c
    refine ⟨[.pur (.str w), .pur (.str (chS c))], [.pur (.str w), .pur (.str (chS c))], by simp, ?_, by simp⟩
    unfold ce_number_in_1
    simp [d])
  rw [List.nil_append] at hc
  have ec : charsD w = w.cps.toList.map (fun c => PyData.str (chS c)) := rfl
  have ha := all_dig w.cps.toList
  have hL := len_ok hl
  have q1 := eq0 w
  have lw := len_w w
  simp only [F_number_in, runDef_def, x_number_in]
  generalize ce_number_in_1 = ce at *
  by_cases c1 : 1 ≤ w.cps.toList.length ∧ w.cps.toList.length ≤ 60
  · cases e : w.cps.toList with
    | nil => rw [e] at c1; simp at c1
    | cons c cs =>
      have f0 := first_ok e hl
      have q2 := ne0 (chS c)
      have ic := int_ok (w := w)
      rw [show (chS c).cps.toList = [c] from rfl] at q2
      rw [← ec] at hc
      have k1 : (1 : Int) ≤ (w.cps.toList.length : Int) := by omega
      have k2 : (w.cps.toList.length : Int) ≤ 60 := by omega
      have l60 : w.length ≤ 60 := by omega
      cases al : w.cps.toList.all isDig with
      | false =>
        have hn : numD (c :: cs) = .none := by rw [← e]; unfold numD numOk; rw [al]; simp
        rw [al] at ha
        rw [hn]
        generalize (w.cps.toList.length : Int) = L at *
        generalize w.cps.toList.map (fun c => PyData.bool (isDig c)) = bs at *
        simp [hL, k1, k2, hc, ha, -e_lenS]
      | true =>
        have ic := ic al (by rw [e]; simp) l60
        rw [al] at ha
        rw [e] at q1
        have hn : numD (c :: cs) = if (cs = [] ∨ c ≠ 48) then .int ((PySem.NumText.digitsVal (c :: cs) : Nat) : Int) else .none := by
          rw [← e]; unfold numD numOk
          rw [al, decide_eq_true c1.1, decide_eq_true c1.2, e]
          by_cases z1 : cs = [] <;> by_cases z2 : c = 48 <;> simp [z1, z2]
        rw [hn]
        rw [e] at ic
        generalize (w.cps.toList.length : Int) = L at *
        generalize w.cps.toList.map (fun c => PyData.bool (isDig c)) = bs at *
        generalize ((PySem.NumText.digitsVal (c :: cs) : Nat) : Int) = V at *
        have z0 : chS 48 = "0" := str_ext (by rw [zero_cps])
        by_cases z1 : cs = [] <;> by_cases z2 : c = 48 <;> simp [z0, hL, k1, k2, hc, ha, q1, f0, q2, ic, z1, z2, -e_lenS, -e_intS]
  · have hn : numD w.cps.toList = .none := by
      unfold numD numOk
      rw [if_neg]
      intro h
      simp only [Bool.and_eq_true, decide_eq_true_eq] at h
      exact c1 ⟨h.1.1.1, h.1.1.2⟩
    rw [hn]
    have k : ¬ ((1 : Int) ≤ (w.cps.toList.length : Int) ∧ (w.cps.toList.length : Int) ≤ 60) := by omega
    generalize (w.cps.toList.length : Int) = L at *
    by_cases k1 : (1 : Int) ≤ L
    · have k2 : ¬ L ≤ 60 := fun h => k ⟨k1, h⟩
      simp [hL, k1, k2, -e_lenS]
    · simp [hL, k1, -e_lenS]
end K52

/-! text T52C -/
set_option maxHeartbeats 2000000
namespace K52
open PySem IX
/-- a text of plain signs, not too long -/
def Pl (w : Str) : Prop := (∀ c ∈ w.cps.toList, c < 128) ∧ w.length ≤ 200000
theorem strOk_pl {z : Str} (h : ∀ c ∈ z.cps.toList, c < 128) : PyData.canLay0 (.str z) = true := by
  show PyData.strOk z = true
  unfold PyData.strOk
  rw [Array.all_eq_true']
  intro c hc
  have := h c (by simpa using hc)
  simp; omega
theorem lay_pl : ∀ ys : List Str, (∀ y ∈ ys, ∀ c ∈ y.cps.toList, c < 128) → PyData.canLayAll0 (ys.map .str) = true ∧ PyData.depthAll (ys.map .str) = 0
  | [], _ => ⟨rfl, rfl⟩
  | y :: ys, h => by
    obtain ⟨h1, h2⟩ := lay_pl ys fun x hx => h x (by simp [hx])
    rw [List.map_cons, PyData.canLayAll0, PyData.depthAll, h1, h2, strOk_pl (h y (by simp))]
    exact ⟨rfl, rfl⟩
theorem ne_pl {ys : List Str} (h : ∀ y ∈ ys, ∀ c ∈ y.cps.toList, c < 128) : opNe (.list (ys.map .str)) (.list []) = some (.pur (.bool (decide (ys ≠ [])))) := by
  have sh : SeqAt.shaped (.list (ys.map .str)) = true := by
    obtain ⟨h1, h2⟩ := lay_pl ys h
    have h3 : (PyData.list (ys.map .str)).depth ≤ 64 := by simp [PyData.depth, h2]
    simp [SeqAt.shaped, h3]
    simp [PyData.canLay0, h1]
  rw [e_ne_sh (by rw [sh]; rfl)]
  cases ys <;> simp [PyData.eqv, PyData.eqvAll]
theorem dig_notin (c : Nat) : opNotIn (.str (chS c)) (.str "0123456789") = some (.pur (.bool (!isDig c))) := by
  show (match fInC true (.str ⟨#[c]⟩) (.str "0123456789") with
    | some r => some r
    | none => orF (fInS true) (fIn true) (.str ⟨#[c]⟩) (.str "0123456789")) = _
  have e : fInC true (.str ⟨#[c]⟩) (.str ("0123456789" : Str)) = some (.pur (.bool (!decide (c ∈ ("0123456789" : Str).cps.toList)))) := rfl
  rw [e, digits_cps]
  simp only [isDig]
  congr 4
  rw [Bool.eq_iff_iff]
  simp
  omega
theorem filt : ∀ l : List Nat, decide ((l.filter fun c => !isDig c) ≠ []) = !l.all isDig
  | [] => rfl
  | c :: l => by
    have ih := filt l
    rw [List.filter_cons, List.all_cons]
    cases h : isDig c
    · simp
    · simpa using ih
theorem law_number_ok {w : Str} (hw : Pl w) : F__law_number [.pur (.str w), .pur (.int 60)] = some (.pur (numD w.cps.toList), [.und, .und]) := by
  obtain ⟨hp, hl⟩ := hw
  have hlen : w.cps.toList.length ≤ 200000 := by rw [← len_w]; exact hl
  have hc := compL_encF (vs := [2]) (g := gN 2) (t := ct__law_number_1) (a := evV 2) (env := [.pur (.str w), .pur (.int 60), .und]) (fun c => PyData.str (chS c)) (fun c => PyData.str (chS c)) (fun c => !isDig c) w.cps.toList [] (by rw [sizeLine_eq, List.length_nil]; omega) (fun c _ => by
    have d := dig_notin c
    refine ⟨[.pur (.str w), .pur (.int 60), .pur (.str (chS c))], [.pur (.str w), .pur (.int 60), .pur (.str (chS c))], by simp, ?_, fun _ => ⟨[.pur (.str w), .pur (.int 60), .pur (.str (chS c))], by simp, by simp⟩, fun _ => by simp⟩
    unfold ct__law_number_1
    simp [d])
  rw [List.nil_append] at hc
  have ec : charsD w = w.cps.toList.map (fun c => PyData.str (chS c)) := rfl
  rw [← ec] at hc
  have hne : opNe (.list ((w.cps.toList.filter fun c => !isDig c).map fun c => PyData.str (chS c))) (.list []) = some (.pur (.bool (decide ((w.cps.toList.filter fun c => !isDig c) ≠ [])))) := by
    have e : ((w.cps.toList.filter fun c => !isDig c).map fun c => PyData.str (chS c)) = ((w.cps.toList.filter fun c => !isDig c).map chS).map .str := by simp
    rw [e, ne_pl (fun y hy c hc => by
      obtain ⟨d, hd, rfl⟩ := List.mem_map.mp hy
      have : c = d := by simpa using hc
      rw [this]
      exact hp d ((List.mem_filter.mp hd).1))]
    congr 3
    rw [Bool.eq_iff_iff]; simp
  have hL := len_ok hl
  have lw := len_w w
  have alf : decide ((w.cps.toList.filter fun c => !isDig c) ≠ []) = !w.cps.toList.all isDig := filt _
  rw [alf] at hne
  simp only [F__law_number, runDef_def, x__law_number]
  generalize ct__law_number_1 = ce at *
  generalize ((w.cps.toList.filter fun c => !isDig c).map fun c => PyData.str (chS c)) = bs at *
  by_cases c1 : 1 ≤ w.cps.toList.length ∧ w.cps.toList.length ≤ 60
  · cases e : w.cps.toList with
    | nil => rw [e] at c1; simp at c1
    | cons c cs =>
      have f0 := first_ok e hl
      have q2 := eq0 (chS c)
      have ic := int_ok (w := w)
      rw [show (chS c).cps.toList = [c] from rfl] at q2
      have k1 : (1 : Int) ≤ (w.cps.toList.length : Int) := by omega
      have k2 : (w.cps.toList.length : Int) ≤ 60 := by omega
      have l60 : w.length ≤ 60 := by omega
      cases al : w.cps.toList.all isDig with
      | false =>
        have hn : numD (c :: cs) = .none := by rw [← e]; unfold numD numOk; rw [al]; simp
        rw [al] at hne
        rw [hn]
        generalize (w.cps.toList.length : Int) = L at *
        simp [hL, k1, k2, hc, hne, -e_lenS]
      | true =>
        have ic := ic al (by rw [e]; simp) l60
        rw [al] at hne
        have hn : numD (c :: cs) = if (cs = [] ∨ c ≠ 48) then .int ((PySem.NumText.digitsVal (c :: cs) : Nat) : Int) else .none := by
          rw [← e]; unfold numD numOk
          rw [al, decide_eq_true c1.1, decide_eq_true c1.2, e]
          by_cases z1 : cs = [] <;> by_cases z2 : c = 48 <;> simp [z1, z2]
        rw [hn]
        rw [e] at ic
        have k3 : decide ((1 : Int) < (w.cps.toList.length : Int)) = decide (cs ≠ []) := by
          rw [e, List.length_cons]
          cases cs with
          | nil => simp
          | cons d ds => simp; omega
        have z0 : ∀ d, (chS d = "0") ↔ d = 48 := fun d => ⟨fun h => by
          have := congrArg (fun z : Str => z.cps.toList) h
          simp only [zero_cps] at this
          simpa using this, fun h => by rw [h]; exact str_ext (by rw [zero_cps])⟩
        generalize (w.cps.toList.length : Int) = L at *
        generalize ((PySem.NumText.digitsVal (c :: cs) : Nat) : Int) = V at *
        by_cases z1 : cs = []
        · have k3' : ¬ (1 : Int) < L := by simpa [z1] using k3
          simp [z0, hL, k1, k2, k3', hc, hne, ic, z1, -e_lenS, -e_intS]
        · have k3' : (1 : Int) < L := by simpa [z1] using k3
          by_cases z2 : c = 48 <;> simp [z0, hL, k1, k2, k3', hc, hne, f0, q2, ic, z1, z2, -e_lenS, -e_intS]
  · have hn : numD w.cps.toList = .none := by
      unfold numD numOk
      rw [if_neg]
      intro h
      simp only [Bool.and_eq_true, decide_eq_true_eq] at h
      exact c1 ⟨h.1.1.1, h.1.1.2⟩
    rw [hn]
    have k : ¬ ((1 : Int) ≤ (w.cps.toList.length : Int) ∧ (w.cps.toList.length : Int) ≤ 60) := by omega
    generalize (w.cps.toList.length : Int) = L at *
    by_cases k1 : (1 : Int) ≤ L
    · have k2 : ¬ L ≤ 60 := fun h => k ⟨k1, h⟩
      simp [hL, k1, k2, -e_lenS]
    · simp [hL, k1, -e_lenS]
end K52

/-! text T52D -/
set_option maxHeartbeats 2000000
namespace K52
open PySem IX
/-! ### texts split at their converting steps -/
open PySem.StrLaws in
theorem replL1 (y : Nat) (z : List Nat) : ∀ (c : Nat) (r : List Nat), replL [y] z (c :: r) = (if c = y then z else [c]) ++ replL [y] z r := fun c r => by
  by_cases h : c = y
  · rw [if_pos h, replL_hit (by simp) (by simp [h])]; simp
  · rw [if_neg h, replL_miss (by simp [h])]; rfl
open PySem.StrLaws in
theorem replL1_map (y m : Nat) : ∀ l : List Nat, replL [y] [m] l = l.map fun c => if c = y then m else c
  | [] => replL_nil
  | c :: r => by
    rw [replL1, replL1_map y m r, List.map_cons]
    split <;> rfl
open PySem.StrLaws in
theorem replL1_mem (y : Nat) : ∀ (l : List Nat) (d : Nat), d ∈ replL [y] [] l → d ∈ l
  | [], d, h => by rw [replL_nil] at h; cases h
  | c :: r, d, h => by
    rw [replL1] at h
    split at h
    · exact List.mem_cons_of_mem _ (replL1_mem y r d (by simpa using h))
    · rcases List.mem_append.mp h with h | h
      · rw [List.mem_singleton.mp h]; simp
      · exact List.mem_cons_of_mem _ (replL1_mem y r d h)
theorem m_cps : ("M" : Str).cps.toList = [77] ∧ ("N" : Str).cps.toList = [78] ∧ ("M" : Str).length = 1 ∧ ("N" : Str).length = 1 ∧ Builtin.Str.strKind ("M" : Str) = 1 := by decide +kernel
open PySem.StrLaws in
/-- the parts, glued by anything, are the text with that in the place of each M -/
theorem glue_split (x z : Str) : glueT z.cps.toList (Txt.split x "M") = replL [77] z.cps.toList x.cps.toList := by
  obtain ⟨e1, _, e3, _, e5⟩ := m_cps
  have hr := replace_list (x := x) (y := "M") (z := z) (by rw [e3]; decide)
  rw [e1] at hr
  unfold Txt.split
  split
  · rename_i h
    have hx : x.cps.toList = [] := by
      have k : 1 ≤ Builtin.Str.strKind x := by unfold Builtin.Str.strKind; split; exact Nat.le_refl _; split <;> decide
      rw [Bool.or_eq_true, decide_eq_true_eq, decide_eq_true_eq, e3, e5] at h
      have : x.length = 0 := by omega
      have : x.cps.size = 0 := this
      simpa using this
    simp [glueT, glueL, hx, replL_nil]
  · rw [← hr]
    unfold Txt.replace
    split
    · rename_i h
      rw [if_pos (by rw [h]; rfl)]
      simp [glueT, glueL]
    · rename_i h
      have hy0 : (("M" : Str).length == 0) = false := by rw [e3]; rfl
      have h' : (Builtin.Str.occurrences x "M" 0 x.length (x.length + 1)).isEmpty = false := by simpa using h
      rw [if_neg (by rw [h', hy0]; exact Bool.false_ne_true)]
      cases e : Builtin.Str.partsBetween x (Builtin.Str.occurrences x "M" 0 x.length (x.length + 1)) ("M" : Str).length with
      | nil =>
        have := length_partsBetween x (Builtin.Str.occurrences x "M" 0 x.length (x.length + 1)) ("M" : Str).length
        rw [e] at this
        simp at this
      | cons p r => rw [glued_list]
def splM (m : Nat) : List Nat → List (List Nat)
  | [] => [[]]
  | c :: cs => if c = m then [] :: splM m cs else match splM m cs with
    | p :: ps => (c :: p) :: ps
    | [] => [[c]]
theorem splM_app (m : Nat) : ∀ (p q : List Nat), m ∉ p → splM m (p ++ m :: q) = p :: splM m q
  | [], q, _ => by simp [splM]
  | c :: p, q, h => by
    have h1 : ¬ c = m := fun e => h (by simp [e])
    have ih := splM_app m p q (fun e => h (by simp [e]))
    rw [List.cons_append, splM, if_neg h1, ih]
theorem splM_none (m : Nat) : ∀ (p : List Nat), m ∉ p → splM m p = [p]
  | [], _ => rfl
  | c :: p, h => by
    have h1 : ¬ c = m := fun e => h (by simp [e])
    have ih := splM_none m p (fun e => h (by simp [e]))
    rw [splM, if_neg h1, ih]
open PySem.StrLaws in
theorem splM_glue (m : Nat) : ∀ (r : List Str) (p : Str), m ∉ p.cps.toList → (∀ q ∈ r, m ∉ q.cps.toList) → splM m (p.cps.toList ++ glueL [m] r) = p.cps.toList :: r.map (·.cps.toList)
  | [], p, h, _ => by rw [glueL, List.append_nil, splM_none m _ h]; rfl
  | q :: r, p, h, hr => by
    have ih := splM_glue m r q (hr q (by simp)) fun x hx => hr x (by simp [hx])
    rw [glueL, List.singleton_append, splM_app m _ _ h, ih]; rfl
open PySem.StrLaws in
theorem glueL_mem : ∀ (r : List Str) (q : Str) (d : Nat), q ∈ r → d ∈ q.cps.toList → d ∈ glueL [] r
  | [], _, _, h, _ => by cases h
  | p :: r, q, d, h, hd => by
    rw [glueL, List.nil_append]
    rcases List.mem_cons.mp h with h | h
    · subst h; simp [hd]
    · simp [glueL_mem r q d h hd]
/-- the parts of a text without the sign 0 -/
theorem split_list {x : Str} (h : 0 ∉ x.cps.toList) : (Txt.split x "M").map (·.cps.toList) = splM 0 (x.cps.toList.map fun c => if c = 77 then 0 else c) := by
  have e0 := glue_split x ⟨#[]⟩
  have e1 := glue_split x ⟨#[0]⟩
  have n0 : ((⟨#[]⟩ : Str).cps.toList) = [] := rfl
  have n1 : ((⟨#[0]⟩ : Str).cps.toList) = [0] := rfl
  rw [n0] at e0
  rw [n1, replL1_map] at e1
  rw [← e1]
  have pos := PyProof.Rows.split_pos x "M"
  cases e : Txt.split x "M" with
  | nil => rw [e] at pos; simp at pos
  | cons p r =>
    rw [e] at e0
    have mem : ∀ q ∈ p :: r, 0 ∉ q.cps.toList := fun q hq hd => h (replL1_mem 77 _ _ (by
      rw [← e0]
      show 0 ∈ p.cps.toList ++ PySem.StrLaws.glueL [] r
      rcases List.mem_cons.mp hq with rfl | hq
      · simp [hd]
      · simp [glueL_mem r q 0 hq hd]))
    exact (splM_glue 0 r p (mem p (by simp)) fun q hq => mem q (by simp [hq])).symm
/-! a text by its converting steps -/
def dec : List Nat → List Nat × List (Nat × List Nat)
  | [] => ([], [])
  | c :: cs => if c = 77 ∨ c = 78 then ([], (c, (dec cs).1) :: (dec cs).2) else (c :: (dec cs).1, (dec cs).2)
def flat (s : List (Nat × List Nat)) : List Nat := s.flatMap fun q => q.1 :: q.2
theorem dec_flat : ∀ L : List Nat, (dec L).1 ++ flat (dec L).2 = L
  | [] => rfl
  | c :: cs => by
    have ih := dec_flat cs
    rw [dec]
    split
    · simp only [flat, List.flatMap_cons, List.nil_append, List.cons_append] at *
      rw [ih]
    · simp only [List.cons_append]
      rw [ih]
theorem dec_ud : ∀ L : List Nat, (∀ c ∈ L, c = 85 ∨ c = 68 ∨ c = 77 ∨ c = 78) → (∀ c ∈ (dec L).1, c = 85 ∨ c = 68) ∧ ∀ q ∈ (dec L).2, (q.1 = 77 ∨ q.1 = 78) ∧ ∀ c ∈ q.2, c = 85 ∨ c = 68
  | [], _ => ⟨by simp [dec], by simp [dec]⟩
  | c :: cs, h => by
    obtain ⟨i1, i2⟩ := dec_ud cs fun d hd => h d (by simp [hd])
    have hc := h c (by simp)
    rw [dec]
    split
    · rename_i z
      refine ⟨by simp, fun q hq => ?_⟩
      rcases List.mem_cons.mp hq with rfl | hq
      · exact ⟨z, i1⟩
      · exact i2 q hq
    · rename_i z
      refine ⟨fun d hd => ?_, i2⟩
      rcases List.mem_cons.mp hd with rfl | hd
      · omega
      · exact i1 d hd
theorem dec_spl : ∀ L : List Nat, (∀ c ∈ L, c = 85 ∨ c = 68 ∨ c = 77 ∨ c = 78) → splM 0 ((L.map fun c => if c = 78 then 77 else c).map fun c => if c = 77 then 0 else c) = (dec L).1 :: (dec L).2.map (·.2)
  | [], _ => rfl
  | c :: cs, h => by
    have ih := dec_spl cs fun d hd => h d (by simp [hd])
    have hc := h c (by simp)
    rw [dec, List.map_cons, List.map_cons, splM]
    by_cases z : c = 77 ∨ c = 78
    · rw [if_pos z, if_pos (by rcases z with rfl | rfl <;> rfl), ih]; rfl
    · rw [if_neg z]
      have e : (if (if c = 78 then 77 else c) = 77 then 0 else (if c = 78 then 77 else c)) = c := by
        rw [if_neg (show ¬ c = 78 by omega), if_neg (show ¬ c = 77 by omega)]
      rw [e, if_neg (by omega), ih]
def st (l : List Nat) : Str := ⟨l.toArray⟩
theorem st_of {x : Str} {l : List Nat} (h : x.cps.toList = l) : x = st l := by
  subst h
  cases x
  simp [st]
theorem st_len (l : List Nat) : (st l).length = l.length := by simp [st, Str.length]
theorem len_l (x : Str) : x.length = x.cps.toList.length := by simp [Str.length]
/-! ### a text split at a sign -/
section
open PySem.StrLaws
theorem parts_join (y : Str) : ∀ (p : Str) (r : List Str), (Str.join y (p :: r)).cps.toList = p.cps.toList ++ glueL y.cps.toList r := fun p r => by
  rw [← glued_eq_join, glued_list]; rfl
theorem parts_one (x : Str) (c : Nat) : (Builtin.Str.partsBetween x (Builtin.Str.occurrences x ⟨#[c]⟩ 0 x.length (x.length + 1)) (⟨#[c]⟩ : Str).length).map (·.cps.toList) = splM c x.cps.toList := by
  obtain ⟨f, h1, h2⟩ := occ_tight x ⟨#[c]⟩ (Nat.le_refl 1)
  obtain ⟨f', h3⟩ := occ_chain x ⟨#[c]⟩ (x.length + 1)
  rw [partsBetween_eq]
  have hf := parts_free x c _ 0 f h1 h2
  have hj := join_partsFrom x ⟨#[c]⟩ _ 0 f' h3
  rw [sub_whole] at hj
  obtain ⟨p, r, ep⟩ := partsFrom_ne x (⟨#[c]⟩ : Str).length 0 (Builtin.Str.occurrences x ⟨#[c]⟩ 0 x.length (x.length + 1))
  rw [ep] at hf hj ⊢
  have e := parts_join ⟨#[c]⟩ p r
  rw [hj] at e
  have e1 : (⟨#[c]⟩ : Str).cps.toList = [c] := rfl
  rw [e, e1, splM_glue c r p (hf p (by simp)) fun q hq => hf q (by simp [hq])]
  rfl
theorem splM_len (c : Nat) : ∀ l : List Nat, (splM c l).length = l.count c + 1
  | [] => rfl
  | d :: l => by
    have ih := splM_len c l
    rw [splM]
    split
    · rename_i h; subst h; simp [ih]
    · rename_i h
      cases e : splM c l with
      | nil => rw [e] at ih; simp at ih
      | cons p ps =>
        rw [e] at ih
        simp only [List.length_cons] at ih ⊢
        rw [List.count_cons_of_ne h]
        exact ih
theorem count_one (x : Str) (c : Nat) : Txt.count x ⟨#[c]⟩ = ((x.cps.toList.count c : Nat) : Int) := by
  have h := congrArg List.length (parts_one x c)
  rw [List.length_map, length_partsBetween, splM_len] at h
  unfold Txt.count
  congr 1
  omega
theorem split_one (x : Str) (c : Nat) : (Txt.split x ⟨#[c]⟩).map (·.cps.toList) = splM c x.cps.toList := by
  have hf := split_free x c
  have hj := join_split x ⟨#[c]⟩
  cases e : Txt.split x ⟨#[c]⟩ with
  | nil =>
    exfalso
    unfold Txt.split at e
    split at e
    · cases e
    · split at e
      · cases e
      · have := congrArg List.length e
        rw [length_partsBetween] at this
        simp at this
  | cons p r =>
    rw [e] at hf hj
    have e2 := parts_join ⟨#[c]⟩ p r
    rw [hj] at e2
    have e1 : (⟨#[c]⟩ : Str).cps.toList = [c] := rfl
    rw [e2, e1, splM_glue c r p (hf p (by simp)) fun q hq => hf q (by simp [hq])]
    rfl
end
theorem map_st {ps : List Str} {ls : List (List Nat)} (h : ps.map (·.cps.toList) = ls) : ps = ls.map st := by
  subst h
  rw [List.map_map]
  conv => lhs; rw [← List.map_id ps]
  apply List.map_congr_left
  intro x _
  exact st_of rfl
theorem split_st (x : Str) (c : Nat) : Txt.split x ⟨#[c]⟩ = (splM c x.cps.toList).map st := map_st (split_one x c)
/-! check_form of a word and numbers -/
def goodF (w0 : Str) (ns : List Nat) : Bool := (decide (w0 = "keep") && decide (ns.length = 2)) || (decide (w0 = "lf") && decide (ns.length = 4) && decide (1 ≤ ns.getD 2 0)) || (decide (w0 = "cr") && decide (ns.length = 3) && decide (1 ≤ ns.getD 2 0))
def sizeF (w0 : Str) : PyData := (tab_SIZES.lookup w0).getD .none
theorem kw_ne : ("keep" : Str) ≠ "lf" ∧ ("keep" : Str) ≠ "cr" ∧ ("lf" : Str) ≠ "cr" := by decide +kernel
theorem sizeF_k : sizeF "keep" = .int 3 ∧ sizeF "lf" = .int 5 ∧ sizeF "cr" = .int 4 := ⟨by rfl, by rfl, by rfl⟩
theorem sizeF_o {w0 : Str} (h1 : w0 ≠ "keep") (h2 : w0 ≠ "lf") (h3 : w0 ≠ "cr") : sizeF w0 = .none := by
  have b1 : (w0 == "keep") = false := by simpa using h1
  have b2 : (w0 == "lf") = false := by simpa using h2
  have b3 : (w0 == "cr") = false := by simpa using h3
  unfold sizeF tab_SIZES
  simp [List.lookup_cons, b1, b2, b3]
abbrev wantD (w0 : Str) (ns : List Nat) : PyData := .tuple (.str w0 :: ns.map fun n : Nat => .int (n : Int))
theorem chk_mis {w0 : Str} {ns : List Nat} (hl : ns.length ≤ 200000) (h : opNe (sizeF w0) (.int ((ns.length : Int) + 1)) = some (.pur (.bool true))) : FX_check_form [.pur (wantD w0 ns)] = some (exR "InvalidForm" .none, [.und]) := by
  unfold sizeF at h
  have e1 : ((ns.length : Int) + 1 = 0) = False := by simp; omega
  have l1 : (ns.map fun n : Nat => PyData.int (n : Int)).length = ns.length := List.length_map ..
  have l2 : ns.length + 1 ≤ 16777216 := by omega
  simp only [FX_check_form, runDef_def, xx_check_form, wantD]
  generalize (ns.map fun n : Nat => PyData.int (n : Int)) = xs at *
  have l3 : (xs.length : Int) + 1 ≠ 0 := by omega
  rw [← l1] at h l2
  generalize tab_SIZES = tb at *
  simp [xRaise, h, l2, sizeLine_eq, l3]
theorem ne_int (i j : Int) : opNe (.int i) (.int j) = some (.pur (.bool (!decide (i = j)))) := by
  simp
  rw [Bool.eq_iff_iff]; simp
theorem ne_non (j : Int) : opNe .none (.int j) = some (.pur (.bool true)) := by
  rw [e_ne_sc (by rfl)]; rfl
theorem chk_ok52 {w0 : Str} {ns : List Nat} (hl : ns.length ≤ 200000) : FX_check_form [.pur (wantD w0 ns)] = if goodF w0 ns = true then some (.pur .none, [.und]) else some (exR "InvalidForm" .none, [.und]) := by
  obtain ⟨n1, n2, n3⟩ := kw_ne
  obtain ⟨s1, s2, s3⟩ := sizeF_k
  have mis : ∀ s : Int, sizeF w0 = .int s → s ≠ (ns.length : Int) + 1 → FX_check_form [.pur (wantD w0 ns)] = some (exR "InvalidForm" .none, [.und]) := fun s hs hn => chk_mis hl (by rw [hs, ne_int, decide_eq_false hn]; rfl)
  by_cases k1 : w0 = "keep"
  · subst k1
    by_cases z : ns.length = 2
    · match ns, z with
      | [a, b], _ =>
        have g : goodF "keep" [a, b] = true := by simp [goodF]
        have h3 : ¬ min (a : Int) (b : Int) < 0 := by omega
        rw [if_pos g]
        show FX_check_form [.pur (.tuple [.str "keep", .int a, .int b])] = _
        simp [FX_check_form, runDef_def, xx_check_form, tab_SIZES, List.lookup_cons, h3, xRaise]
    · rw [if_neg (by simp [goodF, n1, n2, z]), mis 3 s1 (by omega)]
  · by_cases k2 : w0 = "lf"
    · subst k2
      by_cases z : ns.length = 4
      · match ns, z with
        | [a, b, k, c], _ =>
          have h3 : ¬ min (a : Int) (min (b : Int) (min (k : Int) (c : Int))) < 0 := by omega
          by_cases q : 1 ≤ k
          · have g : goodF "lf" [a, b, k, c] = true := by simp [goodF, q]
            have h4 : ¬ (k : Int) < 1 := by omega
            rw [if_pos g]
            show FX_check_form [.pur (.tuple [.str "lf", .int a, .int b, .int k, .int c])] = _
            simp [FX_check_form, runDef_def, xx_check_form, tab_SIZES, List.lookup_cons, h3, h4, xRaise]
          · have g : ¬ goodF "lf" [a, b, k, c] = true := by simp [goodF, k1, n3]; omega
            have h4 : (k : Int) < 1 := by omega
            rw [if_neg g]
            show FX_check_form [.pur (.tuple [.str "lf", .int a, .int b, .int k, .int c])] = _
            simp [FX_check_form, runDef_def, xx_check_form, tab_SIZES, List.lookup_cons, h3, h4, xRaise]
      · rw [if_neg (by simp [goodF, k1, n3, z]), mis 5 s2 (by omega)]
    · by_cases k3 : w0 = "cr"
      · subst k3
        by_cases z : ns.length = 3
        · match ns, z with
          | [a, b, k], _ =>
            have h3 : ¬ min (a : Int) (min (b : Int) (k : Int)) < 0 := by omega
            by_cases q : 1 ≤ k
            · have g : goodF "cr" [a, b, k] = true := by simp [goodF, q]
              have h4 : ¬ (k : Int) < 1 := by omega
              rw [if_pos g]
              show FX_check_form [.pur (.tuple [.str "cr", .int a, .int b, .int k])] = _
              simp [FX_check_form, runDef_def, xx_check_form, tab_SIZES, List.lookup_cons, h3, h4, xRaise]
            · have g : ¬ goodF "cr" [a, b, k] = true := by simp [goodF, k1, k2]; omega
              have h4 : (k : Int) < 1 := by omega
              rw [if_neg g]
              show FX_check_form [.pur (.tuple [.str "cr", .int a, .int b, .int k])] = _
              simp [FX_check_form, runDef_def, xx_check_form, tab_SIZES, List.lookup_cons, h3, h4, xRaise]
        · rw [if_neg (by simp [goodF, k1, k2, z]), mis 4 s3 (by omega)]
      · rw [if_neg (by simp [goodF, k1, k2, k3])]
        exact chk_mis hl (by rw [sizeF_o k1 k2 k3, ne_non])
end K52

/-! text T52E -/
set_option maxHeartbeats 2000000
namespace K52
open PySem IX
/-! read_form -/
theorem splM_sub (m : Nat) : ∀ (l : List Nat), ∀ p ∈ splM m l, (∀ x ∈ p, x ∈ l) ∧ p.length ≤ l.length
  | [], p, h => by
    have : p = [] := by simpa [splM] using h
    subst this; simp
  | c :: cs, p, h => by
    have ih := splM_sub m cs
    rw [splM] at h
    split at h
    · rcases List.mem_cons.mp h with rfl | h
      · simp
      · obtain ⟨h1, h2⟩ := ih p h
        exact ⟨fun x hx => by simp [h1 x hx], by rw [List.length_cons]; omega⟩
    · split at h
      · rename_i p0 ps e
        rcases List.mem_cons.mp h with rfl | h
        · obtain ⟨h1, h2⟩ := ih p0 (by rw [e]; simp)
          refine ⟨fun x hx => ?_, by rw [List.length_cons, List.length_cons]; omega⟩
          rcases List.mem_cons.mp hx with rfl | hx
          · simp
          · simp [h1 x hx]
        · obtain ⟨h1, h2⟩ := ih p (by rw [e]; simp [h])
          exact ⟨fun x hx => by simp [h1 x hx], by rw [List.length_cons]; omega⟩
      · have : p = [c] := by simpa using h
        subst this
        simp
theorem splM_cons (m : Nat) (l : List Nat) : ∃ p r, splM m l = p :: r := by
  cases h : splM m l with
  | nil => have := splM_len m l; rw [h] at this; simp at this
  | cons p r => exact ⟨p, r, rfl⟩
theorem st_cps52 (l : List Nat) : (st l).cps.toList = l := by simp [st]
theorem blank : (" " : Str) = ⟨#[32]⟩ ∧ (" " : Str).length = 1 := by decide +kernel
theorem split_bl (w : Str) (hl : w.length ≤ 200000) : fSplit (.str w) (.str " ") = some (.own false ((splM 32 w.cps.toList).map fun q => PyData.str (st q))) := by
  obtain ⟨b1, b2⟩ := blank
  show (if ((" " : Str).length == 0) = false ∧ w.length + 2 ≤ sizeLine then some (Slot.own false ((Txt.split w " ").map .str)) else none) = _
  rw [if_pos ⟨by rw [b2]; rfl, by rw [sizeLine_eq]; omega⟩, b1, split_st]
  simp
theorem in_none (ls : List (List Nat)) : opIn .none (.list (ls.map numD)) = some (.pur (.bool (!ls.all numOk))) := by
  have fl : (ls.map numD).all flatD = true := by
    rw [List.all_map, List.all_eq_true]
    intro l _
    show flatD (numD l) = true
    unfold numD; split <;> rfl
  have an : ((ls.map numD).any fun e => PyData.eqv e .none) = !ls.all numOk := by
    rw [List.any_map]
    induction ls with
    | nil => rfl
    | cons l ls ih =>
      have ih := ih (by rw [List.map_cons, List.all_cons] at fl; exact (Bool.and_eq_true_iff.mp fl).2)
      rw [List.any_cons, List.all_cons, ih]
      have : ((fun e => PyData.eqv e .none) ∘ numD) l = !numOk l := by
        show PyData.eqv (numD l) .none = _
        unfold numD
        cases numOk l <;> rfl
      rw [this, Bool.not_and]
  rw [show opIn .none (.list (ls.map numD)) = fIn false .none (.list (ls.map numD)) from rfl]
  have : fIn false .none (.list (ls.map numD)) = some (.pur (.bool ((ls.map numD).any fun e => PyData.eqv e .none))) := by
    show (if (flatD .none && (ls.map numD).all flatD) = true then _ else none) = _
    rw [fl]; rfl
  rw [this, an]
abbrev numsN (r : List (List Nat)) : List Nat := r.map PySem.NumText.digitsVal
theorem map_numD {r : List (List Nat)} (h : r.all numOk = true) : r.map numD = (numsN r).map fun n : Nat => PyData.int (n : Int) := by
  rw [List.map_map]
  apply List.map_congr_left
  intro l hl
  have := List.all_eq_true.mp h l hl
  unfold numD
  rw [if_pos this]; rfl
theorem read_ok {w : Str} (hl : w.length ≤ 200000) {p : List Nat} {r : List (List Nat)} (hs : splM 32 w.cps.toList = p :: r) :
    FX_read_form [.pur (.str w)] = if (r.all numOk && goodF (st p) (numsN r)) = true then some (.pur (wantD (st p) (numsN r)), [.und]) else some (exR "Unreadable" (.str w), [.und]) := by
  have lw := len_w w
  have rl : r.length ≤ 200000 := by
    have h1 := splM_len 32 w.cps.toList
    have h2 := List.count_le_length (a := 32) (l := w.cps.toList)
    rw [hs, List.length_cons] at h1
    omega
  have sp := split_bl w hl
  rw [hs, List.map_cons] at sp
  have hc := compL_enc (vs := [5]) (g := gN 5) (a := ceX_read_form_1) (env := [.pur (.str w), .pur (.str (st p)), .pur (.list (r.map fun q => .str (st q))), .und, .und, .und]) (fun q : List Nat => PyData.str (st q)) numD r [] (by rw [sizeLine_eq, List.length_nil]; omega) (fun q hq => by
    have hq2 : (st q).length ≤ 200000 := by
      rw [st_len]
      have := (splM_sub 32 w.cps.toList q (by rw [hs]; simp [hq])).2
      omega
    have d := number_in_ok hq2
    rw [st_cps52] at d
    refine ⟨[.pur (.str w), .pur (.str (st p)), .pur (.list (r.map fun q => .str (st q))), .und, .und, .pur (.str (st q))], [.pur (.str w), .pur (.str (st p)), .pur (.list (r.map fun q => .str (st q))), .und, .und, .pur (.str (st q))], by simp, ?_, by simp⟩
    unfold ceX_read_form_1
    generalize F_number_in = fn at *
    simp [d])
  rw [List.nil_append] at hc
  have inn := in_none r
  have ck := chk_ok52 (w0 := st p) (ns := numsN r) (by rw [List.length_map]; exact rl)
  have mp := map_numD (r := r)
  have ln : (r.map numD).length = r.length := List.length_map ..
  have ok1 : ∀ {x : EvS} {env e : SEnv}, x env = some (.nxt e) → xOk x env = some (.nxt e) := fun h => by simp only [xOk, h]
  have w1 : xOk (xSetT (gStar 1 2 (gsC (gN 1) (gsC (gN 2) gsN))) (evFz (evBin fSplit (evL 0) (evC (.str " "))))) [.pur (.str w), .und, .und, .und, .und, .und] = some (.nxt [.pur (.str w), .pur (.str (st p)), .pur (.list (r.map fun q => .str (st q))), .und, .und, .und]) := ok1 (by
    generalize (r.map fun q => PyData.str (st q)) = rs at *
    simp [sp, gStar, gsC, gsN])
  have w2 : xOk (xSet 3 (evComp [5] (evIt (evV 2)) (gN 5) evYes ceX_read_form_1)) [.pur (.str w), .pur (.str (st p)), .pur (.list (r.map fun q => .str (st q))), .und, .und, .und] = some (.nxt [.pur (.str w), .pur (.str (st p)), .pur (.list (r.map fun q => .str (st q))), .own false (r.map numD), .und, .und]) := ok1 (by
    generalize ceX_read_form_1 = ce at *
    generalize (r.map fun q => PyData.str (st q)) = rs at *
    generalize r.map numD = ds at *
    simp [hc])
  have fin : ∀ x : EvS, x [.pur (.str w), .und, .und, .und, .und, .und] = xx_read_form [.pur (.str w), .und, .und, .und, .und, .und] → runDef 6 x [.pur (.str w)] = FX_read_form [.pur (.str w)] := fun x h => by
    simp only [FX_read_form, runDef_def]
    rw [show ([.pur (.str w)] ++ List.replicate (6 - [Slot.pur (.str w)].length) Slot.und : List Slot) = [.pur (.str w), .und, .und, .und, .und, .und] from rfl, h]
  cases al : r.all numOk with
  | false =>
    rw [al] at inn
    have w3 : xx_read_form [.pur (.str w), .und, .und, .und, .und, .und] = some (.ret (exR "Unreadable" (.str w)) [.pur (.str w), .pur (.str (st p)), .pur (.list (r.map fun q => .str (st q))), .own false (r.map numD), .und, .und]) := by
      unfold xx_read_form
      rw [xSeq_nxt w1, xSeq_nxt w2]
      generalize (r.map fun q => PyData.str (st q)) = rs at *
      generalize r.map numD = ds at *
      simp [inn, xRaise]
    simp only [FX_read_form, runDef_def]
    rw [show ([.pur (.str w)] ++ List.replicate (6 - [Slot.pur (.str w)].length) Slot.und : List Slot) = [.pur (.str w), .und, .und, .und, .und, .und] from rfl, w3]
    simp
  | true =>
    rw [al] at inn
    have mp := mp al
    have w4 : xx_read_form [.pur (.str w), .und, .und, .und, .und, .und] = if goodF (st p) (numsN r) = true then some (.ret (.pur (wantD (st p) (numsN r))) [.pur (.str w), .pur (.str (st p)), .pur (.list (r.map fun q => .str (st q))), .pur (.list (r.map numD)), .pur (wantD (st p) (numsN r)), .und]) else some (.ret (exR "Unreadable" (.str w)) [.pur (.str w), .pur (.str (st p)), .pur (.list (r.map fun q => .str (st q))), .pur (.list (r.map numD)), .pur (wantD (st p) (numsN r)), .und]) := by
      unfold xx_read_form
      rw [xSeq_nxt w1, xSeq_nxt w2]
      have wd : wantD (st p) (numsN r) = .tuple (.str (st p) :: r.map numD) := by show PyData.tuple _ = _; rw [mp]
      rw [wd] at ck ⊢
      have l16 : (r.map numD).length + 1 ≤ 16777216 := by rw [ln]; omega
      generalize (r.map fun q => PyData.str (st q)) = rs at *
      generalize r.map numD = ds at *
      generalize FX_check_form = fc at *
      by_cases g : goodF (st p) (numsN r) = true
      · rw [if_pos g] at ck ⊢
        simp [inn, sizeLine_eq, l16, xTryF, xDropR, ck, xOk]
      · rw [if_neg g] at ck ⊢
        simp [inn, sizeLine_eq, l16, xTryF, xDropR, ck, xOk]
    simp only [FX_read_form, runDef_def]
    rw [show ([.pur (.str w)] ++ List.replicate (6 - [Slot.pur (.str w)].length) Slot.und : List Slot) = [.pur (.str w), .und, .und, .und, .und, .und] from rfl, w4]
    by_cases g : goodF (st p) (numsN r) = true <;> simp [g]
end K52

/-! text T52F -/
set_option maxHeartbeats 2000000
namespace K52
open PySem IX
/-! what the law says a text reads as -/
def okR (p : List Nat) (r : List (List Nat)) : Bool := r.all numOk && goodF (st p) (numsN r)
def szL (z : Str) : Int := if z = "keep" then 2 else if z = "lf" then 4 else if z = "cr" then 3 else -1
theorem cut1 (x : PyData) (xs : List PyData) : cutD (x :: xs) (some 1) none = xs := by
  unfold cutD
  have e1 : HT.sIx (x :: xs).length 0 (some 1) = 1 := by
    rw [show (some (1 : Int)) = some ((1 : Nat) : Int) from rfl, HT.sIx_nat]; simp
  rw [e1, HT.sIx_none]
  simp
theorem d3_ok {a : EvB} {env env' : SEnv} {z : Str} (h : a env = some (.str z, env')) : evD3g "keep" "lf" "cr" 2 4 3 (-1) a env = some (.int (szL z), env') := by
  rw [e_D3g, h]; rfl
theorem due_ok {w : Str} (hw : Pl w) {p : List Nat} {r : List (List Nat)} (hs : splM 32 w.cps.toList = p :: r) :
    F__law_due [.pur (.str w)] = some (.own false (if okR p r = true then [wantD (st p) (numsN r)] else []), [.und]) := by
  obtain ⟨hp, hl⟩ := hw
  have lw := len_w w
  have rl : r.length ≤ 200000 := by
    have h1 := splM_len 32 w.cps.toList
    have h2 := List.count_le_length (a := 32) (l := w.cps.toList)
    rw [hs, List.length_cons] at h1
    omega
  have sp := split_bl w hl
  rw [hs, List.map_cons] at sp
  have hc := compL_enc (vs := [3]) (g := gN 3) (a := ce__law_due_1) (env := [.pur (.str w), .own false (.str (st p) :: r.map fun q => .str (st q)), .und, .und]) (fun q : List Nat => PyData.str (st q)) numD r [] (by rw [sizeLine_eq, List.length_nil]; omega) (fun q hq => by
    obtain ⟨s1, s2⟩ := splM_sub 32 w.cps.toList q (by rw [hs]; simp [hq])
    have d := law_number_ok (w := st q) ⟨fun c hc => hp c (s1 c (by rwa [st_cps52] at hc)), by rw [st_len]; omega⟩
    rw [st_cps52] at d
    refine ⟨[.pur (.str w), .own false (.str (st p) :: r.map fun q => .str (st q)), .und, .pur (.str (st q))], [.pur (.str w), .own false (.str (st p) :: r.map fun q => .str (st q)), .und, .pur (.str (st q))], by simp, ?_, by simp⟩
    unfold ce__law_due_1
    generalize F__law_number = fn at *
    simp [d])
  rw [List.nil_append] at hc
  have inn := in_none r
  have mp := map_numD (r := r)
  have ln : (r.map numD).length = r.length := List.length_map ..
  have w1 : xSet 1 (evBin fSplit (evL 0) (evC (.str " "))) [.pur (.str w), .und, .und, .und] = some (.nxt [.pur (.str w), .own false (.str (st p) :: r.map fun q => .str (st q)), .und, .und]) := by
    generalize (r.map fun q => PyData.str (st q)) = rs at *
    simp [sp]
  have w2 : xSet 2 (evComp [3] (evIt (evFz (evSl (evL 1) (evPart (evC (.int 1))) evNo))) (gN 3) evYes ce__law_due_1) [.pur (.str w), .own false (.str (st p) :: r.map fun q => .str (st q)), .und, .und] = some (.nxt [.pur (.str w), .own false (.str (st p) :: r.map fun q => .str (st q)), .own false (r.map numD), .und]) := by
    generalize ce__law_due_1 = ce at *
    generalize (r.map fun q => PyData.str (st q)) = rs at *
    generalize r.map numD = ds at *
    simp [cut1, hc]
  simp only [F__law_due, runDef_def, x__law_due]
  rw [show ([.pur (.str w)] ++ List.replicate (4 - [Slot.pur (.str w)].length) Slot.und : List Slot) = [.pur (.str w), .und, .und, .und] from rfl, xSeq_nxt w1, xSeq_nxt w2]
  have i0 : fIdx (.list (.str (st p) :: r.map fun q => .str (st q))) (.int 0) = some (.pur (.str (st p))) := by
    have : L2.atI (PyData.str (st p) :: r.map fun q => .str (st q)) 0 = some (.str (st p)) := by
      unfold L2.atI L2.ixN; simp
    simp [this]
  have l16 : r.length ≤ 16777216 := by omega
  cases al : r.all numOk with
  | false =>
    rw [al] at inn
    have ok : okR p r = false := by unfold okR; rw [al]; rfl
    rw [ok]
    generalize (r.map fun q => PyData.str (st q)) = rs at *
    generalize r.map numD = ds at *
    simp [inn, sizeLine_eq]
  | true =>
    rw [al] at inn
    have mp := mp al
    have ok : okR p r = goodF (st p) (numsN r) := by unfold okR; rw [al]; rfl
    have wd : wantD (st p) (numsN r) = .tuple (.str (st p) :: r.map numD) := by show PyData.tuple _ = _; rw [mp]
    rw [ok]
    have lnn : (numsN r).length = r.length := List.length_map ..
    by_cases sz : (r.length : Int) = szL (st p)
    · have hD : evD3g "keep" "lf" "cr" 2 4 3 (-1) (evFz (evBin fIdx (evL 1) (evC (.int 0)))) [.pur (.str w), .own false (.str (st p) :: r.map fun q => .str (st q)), .own false (r.map numD), .und] = some (.int (szL (st p)), [.pur (.str w), .own false (.str (st p) :: r.map fun q => .str (st q)), .own false (r.map numD), .und]) := d3_ok (by
        generalize (r.map fun q => PyData.str (st q)) = rs at *
        simp [i0])
      have nn : opNe (.int (r.length : Int)) (.int (szL (st p))) = some (.pur (.bool false)) := by rw [ne_int, decide_eq_true sz]; rfl
      have hL : cLen [.list (r.map numD)] = some (.pur (.int (r.length : Int))) := by
        rw [← ln]; simp
      have ct : cTup [.list (r.map numD)] = some (.pur (.tuple (r.map numD))) := by rfl
      have tl : ([PyData.str (st p)] ++ r.map numD) = .str (st p) :: r.map numD := rfl
      have l17 : 1 + (r.map numD).length ≤ 16777216 := by rw [ln]; omega
      by_cases k1 : st p = "keep"
      · have g : goodF (st p) (numsN r) = true := by
          unfold goodF szL at *
          rw [if_pos k1] at sz
          have : r.length = 2 := by omega
          simp [k1, this]
        rw [g, wd]
        generalize szL (st p) = S at *
        generalize evD3g "keep" "lf" "cr" 2 4 3 (-1) (evFz (evBin fIdx (evL 1) (evC (.int 0)))) = ed at *
        generalize (r.length : Int) = L at *
        generalize (r.map fun q => PyData.str (st q)) = rs at *
        generalize r.map numD = ds at *
        rw [k1] at *
        simp [inn, hD, hL, nn, sizeLine_eq, i0, l17, ct]
      · obtain ⟨k, hk, hg⟩ : ∃ k : Nat, fIdx (.list (r.map numD)) (.int 2) = some (.pur (.int (k : Int))) ∧ goodF (st p) (numsN r) = decide (1 ≤ k) := by
          unfold szL at sz
          rw [if_neg k1] at sz
          by_cases k2 : st p = "lf"
          · rw [if_pos k2] at sz
            have : r.length = 4 := by omega
            match r, this with
            | [a, b, c, d], _ =>
              refine ⟨PySem.NumText.digitsVal c, by rw [mp]; rfl, ?_⟩
              rw [k2]
              simp [goodF, kw_ne.1.symm, kw_ne.2.2]
          · rw [if_neg k2] at sz
            by_cases k3 : st p = "cr"
            · rw [if_pos k3] at sz
              have : r.length = 3 := by omega
              match r, this with
              | [a, b, c], _ =>
                refine ⟨PySem.NumText.digitsVal c, by rw [mp]; rfl, ?_⟩
                rw [k3]
                simp [goodF, kw_ne.2.1.symm, kw_ne.2.2.symm]
            · rw [if_neg k3] at sz; omega
        rw [hg, wd]
        generalize szL (st p) = S at *
        generalize evD3g "keep" "lf" "cr" 2 4 3 (-1) (evFz (evBin fIdx (evL 1) (evC (.int 0)))) = ed at *
        generalize (r.length : Int) = L at *
        generalize (r.map fun q => PyData.str (st q)) = rs at *
        generalize r.map numD = ds at *
        generalize st p = Z at *
        by_cases q : 1 ≤ k
        · have q' : 0 < (k : Int) := by omega
          generalize (k : Int) = K at *
          simp [inn, hD, hL, nn, sizeLine_eq, i0, l17, ct, k1, hk, q, q']
        · have q' : ¬ 0 < (k : Int) := by omega
          generalize (k : Int) = K at *
          simp [inn, hD, hL, nn, sizeLine_eq, i0, l17, ct, k1, hk, q, q']
    · have g : goodF (st p) (numsN r) = false := by
        unfold goodF
        rw [lnn]
        unfold szL at sz
        obtain ⟨n1, n2, n3⟩ := kw_ne
        by_cases k1 : st p = "keep"
        · rw [if_pos k1] at sz
          have : ¬ r.length = 2 := by omega
          simp [k1, n1, n2, this]
        · rw [if_neg k1] at sz
          by_cases k2 : st p = "lf"
          · rw [if_pos k2] at sz
            have : ¬ r.length = 4 := by omega
            simp [k2, n1.symm, n3, this]
          · rw [if_neg k2] at sz
            by_cases k3 : st p = "cr"
            · rw [if_pos k3] at sz
              have : ¬ r.length = 3 := by omega
              simp [k3, n2.symm, n3.symm, this]
            · simp [k1, k2, k3]
      rw [g]
      have hD : evD3g "keep" "lf" "cr" 2 4 3 (-1) (evFz (evBin fIdx (evL 1) (evC (.int 0)))) [.pur (.str w), .own false (.str (st p) :: r.map fun q => .str (st q)), .own false (r.map numD), .und] = some (.int (szL (st p)), [.pur (.str w), .own false (.str (st p) :: r.map fun q => .str (st q)), .own false (r.map numD), .und]) := d3_ok (by
        generalize (r.map fun q => PyData.str (st q)) = rs at *
        simp [i0])
      have nn : opNe (.int (r.length : Int)) (.int (szL (st p))) = some (.pur (.bool true)) := by rw [ne_int, decide_eq_false sz]; rfl
      generalize szL (st p) = S at *
      generalize evD3g "keep" "lf" "cr" 2 4 3 (-1) (evFz (evBin fIdx (evL 1) (evC (.int 0)))) = ed at *
      have hL : cLen [.list (r.map numD)] = some (.pur (.int (r.length : Int))) := by
        rw [← ln]; simp
      generalize (r.length : Int) = L at *
      generalize (r.map fun q => PyData.str (st q)) = rs at *
      generalize r.map numD = ds at *
      simp [inn, hD, hL, nn, sizeLine_eq]
end K52

/-! text T52G -/
set_option maxHeartbeats 2000000
namespace K52
open PySem IX
/-! the law's question of one text -/
theorem xTry_exc {ks : List Str} {i : Nat} {xb xs : EvS} {env e e2 : SEnv} {c : Str} {d : PyData} {o : Out} (h : xb env = some (.ret (exR c d) e)) (hk : ks.contains c = true) (hs : stS i (.ext false 4 (exS c d)) e = some e2) (hx : xs e2 = some o) : xTry ks i xb xs env = some (undO i o) := by
  unfold xTry
  rw [h]
  simp only [exc_exR]
  rw [if_pos hk, hs]
  simp [hx]
theorem told_ok {w : Str} (hl : w.length ≤ 200000) {p : List Nat} {r : List (List Nat)} (hs : splM 32 w.cps.toList = p :: r) (b : Bool) :
    F__law_told [.pur (.str w), .pur (.bool b)] = some (if okR p r = true then .own false [wantD (st p) (numsN r)] else .pur (.tuple [.bool true, .bool true, .bool false, .str w]), [.und, .und]) := by
  have rd := read_ok hl hs
  have e0 : (r.all numOk && goodF (st p) (numsN r)) = okR p r := rfl
  rw [e0] at rd
  have i1 : ∀ s2, evIsX [(("InvalidForm" : Str), true), ("Unreadable", false)] 3 [.pur (.str w), .pur (.bool b), s2, .ext false 4 (exS "Unreadable" (.str w))] = some (.bool false, [.pur (.str w), .pur (.bool b), s2, .ext false 4 (exS "Unreadable" (.str w))]) := fun s2 => by kernel_rfl
  have i2 : ∀ s2, evIsX [(("InvalidForm" : Str), false), ("Unreadable", false)] 3 [.pur (.str w), .pur (.bool b), s2, .ext false 4 (exS "Unreadable" (.str w))] = some (.bool false, [.pur (.str w), .pur (.bool b), s2, .ext false 4 (exS "Unreadable" (.str w))]) := fun s2 => by kernel_rfl
  have i3 : ∀ s2, evIsX [(("InvalidForm" : Str), false), ("Unreadable", true)] 3 [.pur (.str w), .pur (.bool b), s2, .ext false 4 (exS "Unreadable" (.str w))] = some (.bool true, [.pur (.str w), .pur (.bool b), s2, .ext false 4 (exS "Unreadable" (.str w))]) := fun s2 => by kernel_rfl
  have i4 : ∀ s2, evIsX [(("InvalidForm" : Str), true), ("Unreadable", true)] 3 [.pur (.str w), .pur (.bool b), s2, .ext false 4 (exS "Unreadable" (.str w))] = some (.bool true, [.pur (.str w), .pur (.bool b), s2, .ext false 4 (exS "Unreadable" (.str w))]) := fun s2 => by kernel_rfl
  have i5 : ∀ s2, evExV [("InvalidForm" : Str), "Unreadable"] 3 [.pur (.str w), .pur (.bool b), s2, .ext false 4 (exS "Unreadable" (.str w))] = some (.str w, [.pur (.str w), .pur (.bool b), s2, .ext false 4 (exS "Unreadable" (.str w))]) := fun s2 => by kernel_rfl
  have ts : ts__law_told_1 [.pur (.str w), .pur (.bool b), .und, .ext false 4 (exS "Unreadable" (.str w))] = some (.ret (.pur (.tuple [.bool true, .bool true, .bool false, .str w])) [.pur (.str w), .pur (.bool b), .pur (.bool false), .ext false 4 (exS "Unreadable" (.str w))]) := by
    unfold ts__law_told_1
    generalize evIsX [(("InvalidForm" : Str), true), ("Unreadable", false)] 3 = a1 at *
    generalize evIsX [(("InvalidForm" : Str), false), ("Unreadable", false)] 3 = a2 at *
    generalize evIsX [(("InvalidForm" : Str), false), ("Unreadable", true)] 3 = a3 at *
    generalize evIsX [(("InvalidForm" : Str), true), ("Unreadable", true)] 3 = a4 at *
    generalize evExV [("InvalidForm" : Str), "Unreadable"] 3 = a5 at *
    generalize exS "Unreadable" (.str w) = R at *
    simp [i1, i2, i3, i4, i5, sizeLine_eq]
  have tb : tb__law_told_1 [.pur (.str w), .pur (.bool b), .und, .und] = some (.ret (if okR p r = true then .own false [wantD (st p) (numsN r)] else exR "Unreadable" (.str w)) [.pur (.str w), .pur (.bool b), .und, .und]) := by
    unfold tb__law_told_1
    generalize wantD (st p) (numsN r) = W at *
    generalize FX_read_form = fr at *
    cases ok : okR p r
    · rw [ok] at rd
      cases b <;> simp [evL1, rd]
    · rw [ok] at rd
      cases b <;> simp [evL1, rd]
  have ks : List.contains [("InvalidForm" : Str), "Unreadable"] "Unreadable" = true := by decide +kernel
  simp only [F__law_told, runDef_def, x__law_told]
  rw [show ([.pur (.str w), .pur (.bool b)] ++ List.replicate (4 - [Slot.pur (.str w), .pur (.bool b)].length) Slot.und : List Slot) = [.pur (.str w), .pur (.bool b), .und, .und] from rfl]
  generalize tb__law_told_1 = tbx at *
  generalize ts__law_told_1 = tsx at *
  generalize wantD (st p) (numsN r) = W at *
  cases ok : okR p r
  · rw [ok] at tb
    have tb : tbx [.pur (.str w), .pur (.bool b), .und, .und] = some (.ret (exR "Unreadable" (.str w)) [.pur (.str w), .pur (.bool b), .und, .und]) := tb
    have : xTry [("InvalidForm" : Str), "Unreadable"] 3 tbx tsx [.pur (.str w), .pur (.bool b), .und, .und] = some (.ret (.pur (.tuple [.bool true, .bool true, .bool false, .str w])) [.pur (.str w), .pur (.bool b), .pur (.bool false), .und]) := by
      exact xTry_exc tb ks (e2 := [.pur (.str w), .pur (.bool b), .und, .ext false 4 (exS "Unreadable" (.str w))]) rfl ts
    rw [this]
    simp
  · rw [ok] at tb
    have : xTry [("InvalidForm" : Str), "Unreadable"] 3 tbx tsx [.pur (.str w), .pur (.bool b), .und, .und] = some (.ret (.own false [W]) [.pur (.str w), .pur (.bool b), .und, .und]) := by
      unfold xTry
      rw [tb]
      rfl
    rw [this]
    simp
end K52

/-! text T52H -/
set_option maxHeartbeats 2000000
namespace K52
open PySem IX
/-! ### forms -/
inductive Fm where
  | keep (b a : Int)
  | lf (b a k c : Int)
  | cr (b a k : Int)
  deriving DecidableEq
def Fm.e : Fm → PyData
  | .keep b a => .tuple [.str "keep", .int b, .int a]
  | .lf b a k c => .tuple [.str "lf", .int b, .int a, .int k, .int c]
  | .cr b a k => .tuple [.str "cr", .int b, .int a, .int k]
def Fm.ok : Fm → Prop
  | .keep b a => 0 ≤ b ∧ 0 ≤ a
  | .lf b a k c => 0 ≤ b ∧ 0 ≤ a ∧ 1 ≤ k ∧ 0 ≤ c
  | .cr b a k => 0 ≤ b ∧ 0 ≤ a ∧ 1 ≤ k
def Fm.bd (n : Nat) : Fm → Prop
  | .keep b a => Bd n b ∧ Bd n a
  | .lf b a k c => Bd n b ∧ Bd n a ∧ Bd n k ∧ Bd n c
  | .cr b a k => Bd n b ∧ Bd n a ∧ Bd n k
theorem sh_e (f : Fm) : SeqAt.shaped f.e = true := by
  have k1 : PyData.canLay0 (.str "keep") = true := by decide +kernel
  have k2 : PyData.canLay0 (.str "lf") = true := by decide +kernel
  have k3 : PyData.canLay0 (.str "cr") = true := by decide +kernel
  cases f <;> simp [Fm.e, SeqAt.shaped, PyData.canLay0, PyData.canLayAll0, PyData.depth, PyData.depthAll] at * <;> assumption
theorem eqv_e (f g : Fm) : PyData.eqv f.e g.e = decide (f = g) := by
  cases f <;> cases g <;> simp [Fm.e, PyData.eqv, PyData.eqvAll] <;> (rw [Bool.eq_iff_iff]; simp)
theorem eq_e (f g : Fm) : opEq f.e g.e = some (.pur (.bool (decide (f = g)))) := by
  rw [e_eq_sh (by rw [sh_e, sh_e]; rfl), eqv_e]
theorem sm_e {n : Nat} {f : Fm} (h : f.bd n) : sm n f.e = true := by
  have k1 : sm n (.str "keep") = true := by rw [sm]; decide +kernel
  have k2 : sm n (.str "lf") = true := by rw [sm]; decide +kernel
  have k3 : sm n (.str "cr") = true := by rw [sm]; decide +kernel
  cases f with
  | keep b a =>
    obtain ⟨h1, h2⟩ := h
    have h1 : b.natAbs < 2 ^ n := h1
    have h2 : a.natAbs < 2 ^ n := h2
    simp [Fm.e, sm, smA, h1, h2] at k1 ⊢
    exact k1
  | lf b a k c =>
    obtain ⟨h1, h2, h3, h4⟩ := h
    have h1 : b.natAbs < 2 ^ n := h1
    have h2 : a.natAbs < 2 ^ n := h2
    have h3 : k.natAbs < 2 ^ n := h3
    have h4 : c.natAbs < 2 ^ n := h4
    simp [Fm.e, sm, smA, h1, h2, h3, h4] at k2 ⊢
    exact k2
  | cr b a k =>
    obtain ⟨h1, h2, h3⟩ := h
    have h1 : b.natAbs < 2 ^ n := h1
    have h2 : a.natAbs < 2 ^ n := h2
    have h3 : k.natAbs < 2 ^ n := h3
    simp [Fm.e, sm, smA, h1, h2, h3] at k3 ⊢
    exact k3
/-! every plain text is read right -/
theorem dv_lt : ∀ (l : List Nat) (a : Nat), (l.all isDig = true) → l.foldl (fun acc c => acc * 10 + (c - 48)) a < (a + 1) * 10 ^ l.length
  | [], a, _ => by simp
  | c :: l, a, h => by
    rw [List.all_cons, Bool.and_eq_true] at h
    have hc : c ≤ 57 := by have := h.1; simp [isDig] at this; exact this.2
    have ih := dv_lt l (a * 10 + (c - 48)) h.2
    rw [List.foldl_cons, List.length_cons, Nat.pow_succ]
    have : (a * 10 + (c - 48) + 1) * 10 ^ l.length ≤ (a + 1) * 10 * 10 ^ l.length := Nat.mul_le_mul_right _ (by omega)
    rw [Nat.mul_comm (10 ^ l.length) 10, ← Nat.mul_assoc]
    omega
theorem num_lt {l : List Nat} (h : numOk l = true) : PySem.NumText.digitsVal l < 2 ^ 200 := by
  unfold numOk at h
  simp only [Bool.and_eq_true, decide_eq_true_eq] at h
  have h1 := dv_lt l 0 h.1.2
  have h2 := Nat.pow_le_pow_right (n := 10) (by decide) h.1.1.2
  have h3 : (10 : Nat) ^ 60 < 2 ^ 200 := by decide
  have : PySem.NumText.digitsVal l < (0 + 1) * 10 ^ l.length := h1
  omega
theorem want_fm {p : List Nat} {r : List (List Nat)} (h : okR p r = true) : ∃ f : Fm, wantD (st p) (numsN r) = f.e ∧ f.bd 200 := by
  unfold okR at h
  rw [Bool.and_eq_true] at h
  obtain ⟨al, g⟩ := h
  have hb : ∀ q ∈ r, Bd 200 ((PySem.NumText.digitsVal q : Nat) : Int) := fun q hq => by
    have := num_lt (List.all_eq_true.mp al q hq)
    unfold Bd; rw [Int.natAbs_natCast]; exact this
  have ln : (numsN r).length = r.length := List.length_map ..
  unfold goodF at g
  rw [ln] at g
  simp only [Bool.or_eq_true, Bool.and_eq_true, decide_eq_true_eq] at g
  rcases g with (⟨g1, g2⟩ | ⟨⟨g1, g2⟩, _⟩) | ⟨⟨g1, g2⟩, _⟩
  · match r, g2 with
    | [a, b], _ => exact ⟨.keep _ _, by rw [g1]; rfl, hb a (by simp), hb b (by simp)⟩
  · match r, g2 with
    | [a, b, c, d], _ => exact ⟨.lf _ _ _ _, by rw [g1]; rfl, hb a (by simp), hb b (by simp), hb c (by simp), hb d (by simp)⟩
  · match r, g2 with
    | [a, b, c], _ => exact ⟨.cr _ _ _, by rw [g1]; rfl, hb a (by simp), hb b (by simp), hb c (by simp)⟩
theorem sh_l (f : Fm) : SeqAt.shaped (.list [f.e]) = true := by
  have k1 : PyData.canLay0 (.str "keep") = true := by decide +kernel
  have k2 : PyData.canLay0 (.str "lf") = true := by decide +kernel
  have k3 : PyData.canLay0 (.str "cr") = true := by decide +kernel
  cases f <;> simp [Fm.e, SeqAt.shaped, PyData.canLay0, PyData.canLayAll0, PyData.depth, PyData.depthAll] at * <;> assumption
theorem show_l {f : Fm} (hf : f.bd 200) : showOk (.list [f.e]) = true := by
  have b2 : (PyData.list [f.e]).bulk ≤ 310 := by cases f <;> simp [Fm.e, PyData.bulk, PyData.bulkAll] <;> decide +kernel
  have d2 : (PyData.list [f.e]).depth ≤ 5 := by cases f <;> simp [Fm.e, PyData.depth, PyData.depthAll]
  refine showOk_of (n := 200) (by decide) (by decide) ?_ ?_ (by omega)
  · rw [sm, smA, smA, sm_e hf]; rfl
  · have := Nat.mul_le_mul (show 200 + 11 ≤ 211 by omega) b2
    omega
theorem eq_l0 (f : Fm) : opEq (.list [f.e]) (.list []) = some (.pur (.bool false)) ∧ opNe (.list [f.e]) (.list []) = some (.pur (.bool true)) := by
  have e0 : PyData.eqv (.list [f.e]) (.list []) = false := by simp [PyData.eqv, PyData.eqvAll]
  exact ⟨by rw [e_eq_sh (by rw [sh_l]; rfl), e0], by rw [e_ne_sh (by rw [sh_l]; rfl), e0]; rfl⟩
theorem ne_T {w : Str} (hp : ∀ c ∈ w.cps.toList, c < 128) : opNe (.tuple [.bool true, .bool true, .bool false, .str w]) (.tuple [.bool true, .bool true, .bool false, .str w]) = some (.pur (.bool false)) := by
  have k := strOk_pl hp
  have sh : SeqAt.shaped (.tuple [.bool true, .bool true, .bool false, .str w]) = true := by
    simp [SeqAt.shaped, PyData.canLay0, PyData.canLayAll0, PyData.depth, PyData.depthAll] at *
    exact k
  rw [e_ne_sh (by rw [sh]; rfl)]
  simp [PyData.eqv, PyData.eqvAll]
theorem eq_00 : opEq (.list []) (.list []) = some (.pur (.bool true)) ∧ opNe (.list []) (.list []) = some (.pur (.bool false)) := by
  have sh : SeqAt.shaped (.list []) = true := by decide +kernel
  exact ⟨by rw [e_eq_sh (by rw [sh]; rfl)]; rfl, by rw [e_ne_sh (by rw [sh]; rfl)]; rfl⟩
theorem right52 {w : Str} (hw : Pl w) : F__law_right [.pur (.str w)] = some (.pur (.bool true), [.und]) := by
  obtain ⟨p, r, hs⟩ := splM_cons 32 w.cps.toList
  have du := due_ok hw hs
  have td := told_ok hw.2 hs
  cases ok : okR p r
  · rw [ok] at du td
    have t : ∀ b, F__law_told [.pur (.str w), .pur (.bool b)] = some (.pur (.tuple [.bool true, .bool true, .bool false, .str w]), [.und, .und]) := td
    have d : F__law_due [.pur (.str w)] = some (.own false [], [.und]) := du
    have n := ne_T hw.1
    obtain ⟨q1, q2⟩ := eq_00
    have fb : ∀ b s3, s3.par = false → fb__law_right_1 [.pur (.str w), .own false [], .pur (.bool b), s3] = some (.nxt [.pur (.str w), .own false [], .pur (.bool b), .pur (.tuple [.bool true, .bool true, .bool false, .str w])]) := fun b s3 h3 => by
      unfold fb__law_right_1
      generalize F__law_told = ft at *
      simp [t, n, q1, q2, h3, sizeLine_eq]
    have f1 := fb false .und rfl
    have f2 := fb true (.pur (.tuple [.bool true, .bool true, .bool false, .str w])) rfl
    simp only [F__law_right, runDef_def, x__law_right]
    generalize F__law_due = fd at *
    generalize fb__law_right_1 = fbx at *
    simp [d, sizeLine_eq, e_for1, f1, f2]
  · rw [ok] at du td
    obtain ⟨f, hf, hb⟩ := want_fm ok
    rw [hf] at du td
    have t : ∀ b, F__law_told [.pur (.str w), .pur (.bool b)] = some (.own false [f.e], [.und, .und]) := td
    have d : F__law_due [.pur (.str w)] = some (.own false [f.e], [.und]) := du
    obtain ⟨q1, q2⟩ := eq_l0 f
    have rp : cRepr [.list [f.e]] = some (.pur (.str (PyData.list [f.e]).shown)) := by rw [e_repr, if_pos (show_l hb)]
    generalize (PyData.list [f.e]).shown = Z at *
    generalize f.e = W at *
    have fb : ∀ b s3, s3.par = false → fb__law_right_1 [.pur (.str w), .own false [W], .pur (.bool b), s3] = some (.nxt [.pur (.str w), .own false [W], .pur (.bool b), .own false [W]]) := fun b s3 h3 => by
      unfold fb__law_right_1
      generalize F__law_told = ft at *
      simp [t, q1, q2, rp, h3, sizeLine_eq, -e_repr]
    have f1 := fb false .und rfl
    have f2 := fb true (.own false [W]) rfl
    simp only [F__law_right, runDef_def, x__law_right]
    generalize F__law_due = fd at *
    generalize fb__law_right_1 = fbx at *
    simp [d, sizeLine_eq, e_for1, f1, f2]
end K52

/-! text T52I -/
set_option maxHeartbeats 2000000
namespace K52
open PySem IX
/-! texts that the law makes -/
def PlN (n : Nat) (w : Str) : Prop := (∀ c ∈ w.cps.toList, c < 128) ∧ w.length ≤ n
theorem PlN.pl {n : Nat} {w : Str} (h : PlN n w) (hn : n ≤ 200000) : Pl w := ⟨h.1, by have := h.2; omega⟩
theorem PlN.up {n m : Nat} {w : Str} (h : PlN n w) (hn : n ≤ m) : PlN m w := ⟨h.1, by have := h.2; omega⟩
theorem plN_app {n m : Nat} {a b : Str} (ha : PlN n a) (hb : PlN m b) : PlN (n + m) (a ++ b) := by
  have e : (a ++ b).cps.toList = a.cps.toList ++ b.cps.toList := by
    show (a.cps ++ b.cps).toList = _
    rw [Array.toList_append]
  refine ⟨fun c hc => ?_, ?_⟩
  · rw [e] at hc
    exact (List.mem_append.mp hc).elim (ha.1 c) (hb.1 c)
  · have := ha.2; have := hb.2
    rw [len_w] at *
    rw [e, List.length_append]; omega
theorem numL_len : ∀ (d n : Nat), n < 10 ^ (d + 1) → (TL.numL n).length ≤ d + 1
  | 0, n, h => by rw [TL.numL_lt (by simpa using h)]; simp
  | d + 1, n, h => by
    by_cases c : n < 10
    · rw [TL.numL_lt c]; simp
    · rw [TL.numL_step (by omega), List.length_append]
      have := numL_len d (n / 10) (by rw [Nat.pow_succ] at h; omega)
      simp; omega
theorem str_ok {i : Int} (h0 : 0 ≤ i) (h1 : i < 10 ^ 60) : ∃ z : Str, cStr [.int i] = some (.pur (.str z)) ∧ PlN 60 z := by
  obtain ⟨n, rfl⟩ := Int.eq_ofNat_of_zero_le h0
  have hn : n < 10 ^ 60 := by omega
  refine ⟨toString ((n : Nat) : Int), ?_, fun c hc => ?_, ?_⟩
  · rw [e_strI, if_pos]
    have : ((n : Nat) : Int).natAbs = n := Int.natAbs_natCast n
    rw [this]
    by_cases z : n = 0
    · subst z; decide
    · exact Nat.lt_of_lt_of_le (Nat.log2_lt z |>.mpr (Nat.lt_trans hn (show (10 : Nat) ^ 60 < 2 ^ 200 by decide))) (by decide)
  · have e : (Str.ofString (toString ((n : Nat) : Int))).cps.toList = TL.numL n := TL.tl_num n
    rw [e] at hc
    have := TL.numL_digits n c hc
    omega
  · rw [len_w]
    have e : (Str.ofString (toString ((n : Nat) : Int))).cps.toList = TL.numL n := TL.tl_num n
    rw [e]
    exact numL_len 59 n hn
theorem glue_pl {k : Nat} : ∀ (r : List Str), (∀ y ∈ r, PlN k y) → (∀ c ∈ PySem.StrLaws.glueL [32] r, c < 128) ∧ (PySem.StrLaws.glueL [32] r).length ≤ r.length * (k + 1)
  | [], _ => by simp [PySem.StrLaws.glueL]
  | y :: r, h => by
    obtain ⟨h1, h2⟩ := glue_pl r fun z hz => h z (by simp [hz])
    have hy := h y (by simp)
    rw [PySem.StrLaws.glueL]
    refine ⟨fun c hc => ?_, ?_⟩
    · rcases List.mem_append.mp hc with hc | hc
      · have : c = 32 := by simpa using hc
        omega
      · exact (List.mem_append.mp hc).elim (hy.1 c) (h1 c)
    · have := hy.2
      rw [len_w] at this
      rw [List.length_append, List.length_append, List.length_cons, List.length_cons, List.length_nil, Nat.add_mul]
      omega
theorem sumS (n : Nat) : ∀ ys : List Str, (∀ y ∈ ys, y.length ≤ n) → (ys.map (·.length)).sum ≤ ys.length * n
  | [], _ => by simp
  | y :: ys, h => by
    have := sumS n ys fun x hx => h x (by simp [hx])
    have := h y (by simp)
    rw [List.map_cons, List.sum_cons, List.length_cons, Nat.add_mul]
    omega
theorem strsD_of : ∀ ys : List Str, strsD (ys.map .str) = some ys
  | [] => rfl
  | y :: ys => by rw [List.map_cons, strsD, strsD_of ys]; rfl
theorem join_pl {k m : Nat} {ys : List Str} (h : ∀ y ∈ ys, PlN k y) (hm : ys.length ≤ m) (hb : m * (k + 1) ≤ 200000) : ∃ z : Str, fJoin (.str " ") (.list (ys.map .str)) = some (.pur (.str z)) ∧ PlN (m * (k + 1)) z := by
  have hb2 : ys.length * (k + 1) ≤ m * (k + 1) := Nat.mul_le_mul_right _ hm
  have s1 := sumS k ys fun y hy => (h y hy).2
  have bl : (" " : Str).cps.toList = [32] := by decide +kernel
  refine ⟨Txt.join " " ys, ?_, ?_⟩
  · rw [e_join, strsD_of]
    simp only [Option.bind_some]
    rw [if_pos (by rw [blank.2]; rw [Nat.mul_add] at hb2; omega)]
  · cases ys with
    | nil =>
      have e : (Txt.join " " []).cps.toList = [] := rfl
      exact ⟨fun c hc => (by rw [e] at hc; cases hc), by rw [len_w, e]; simp⟩
    | cons p r =>
      have e : (Txt.join " " (p :: r)).cps.toList = p.cps.toList ++ PySem.StrLaws.glueL [32] r := by
        have := PySem.StrLaws.glued_list " " p r
        rw [bl] at this
        exact this
      obtain ⟨g1, g2⟩ := glue_pl r fun y hy => h y (by simp [hy])
      have hp := h p (by simp)
      refine ⟨fun c hc => ?_, ?_⟩
      · rw [e] at hc
        exact (List.mem_append.mp hc).elim (hp.1 c) (g1 c)
      · have := hp.2
        rw [len_w] at this
        rw [len_w, e, List.length_append]
        rw [List.length_cons, Nat.add_mul] at hb2
        omega
end K52

/-! text T52J -/
set_option maxHeartbeats 2000000
namespace K52
open PySem IX
theorem cutA {α : Type} (f : α → PyData) (ws : List α) (k : Nat) : cutD (ws.map f) none (some (k : Int)) = (ws.take k).map f := by
  rw [cutN, List.map_take]
theorem cutB {α : Type} (f : α → PyData) (ws : List α) (k : Nat) : cutD (ws.map f) (some (k : Int)) none = (ws.drop k).map f := by
  unfold cutD
  rw [HT.sIx_nat, HT.sIx_none, List.map_drop]
  by_cases c : k ≤ (ws.map f).length
  · rw [Nat.min_eq_left c]; exact List.take_of_length_le (by rw [List.length_drop]; omega)
  · rw [List.drop_eq_nil_of_le (by omega), List.drop_eq_nil_of_le (by omega)]; simp
theorem wordsPl {w : Str} (h : PlN 305 w) : (∀ y ∈ (splM 32 w.cps.toList).map st, PlN 305 y) ∧ ((splM 32 w.cps.toList).map st).length ≤ 306 ∧ 1 ≤ ((splM 32 w.cps.toList).map st).length := by
  have hl := h.2
  rw [len_w] at hl
  refine ⟨fun y hy => ?_, ?_, ?_⟩
  · obtain ⟨q, hq, rfl⟩ := List.mem_map.mp hy
    obtain ⟨s1, s2⟩ := splM_sub 32 w.cps.toList q hq
    exact ⟨fun c hc => h.1 c (s1 c (by rwa [st_cps52] at hc)), by rw [st_len]; omega⟩
  · rw [List.length_map, splM_len]
    have := List.count_le_length (a := 32) (l := w.cps.toList)
    omega
  · rw [List.length_map, splM_len]; omega
abbrev B52 (l : List PyData) (w : Str) (ws : List Str) (k wy : Int) (s5 : Slot) : SEnv := [.own true l, .pur (.str w), .own false (ws.map .str), .pur (.int k), .pur (.int wy), s5, .und, .und, .und, .und]
theorem way0 {l : List PyData} {w : Str} {ws : List Str} {k : Nat} (h : ∀ y ∈ ws, PlN 305 y) (hn : ws.length ≤ 306) :
    ∃ z, (xRet (evBin fJoin (evC (.str " ")) (evFz (evBin opAdd (evFz (evSl (evL 2) evNo (evPart (evL 3)))) (evFz (evSl (evL 2) (evPart (evFz (evBin opAdd (evL 3) (evC (.int 1))))) evNo)))))) (B52 l w ws k 0 .und) = some (.ret (.pur (.str z)) (B52 l w ws k 0 .und)) ∧ Pl z := by
  obtain ⟨z, e, p⟩ := join_pl (k := 305) (m := 612) (ys := ws.take k ++ ws.drop (k + 1)) (fun y hy => (List.mem_append.mp hy).elim (fun x => h y (List.mem_of_mem_take x)) fun x => h y (List.mem_of_mem_drop x)) (by rw [List.length_append, List.length_take, List.length_drop]; omega) (by decide)
  refine ⟨z, ?_, p.pl (by decide)⟩
  have c1 := cutA PyData.str ws k
  have c2 := cutB PyData.str ws (k + 1)
  have ad : opAdd (.list ((ws.take k).map .str)) (.list ((ws.drop (k + 1)).map .str)) = some (.own false ((ws.take k ++ ws.drop (k + 1)).map .str)) := by
    rw [e_addLL, if_pos (by rw [List.length_map, List.length_map, List.length_take, List.length_drop, sizeLine_eq]; omega), List.map_append]
  rw [show (((k + 1 : Nat) : Nat) : Int) = (k : Int) + 1 by push_cast; rfl] at c2
  unfold B52
  generalize (k : Int) = K at *
  generalize ws.map PyData.str = W at *
  generalize (ws.take k).map PyData.str = W1 at *
  generalize (ws.drop (_ + 1)).map PyData.str = W2 at *
  generalize (ws.take k ++ ws.drop (k + 1)).map PyData.str = W3 at *
  simp [c1, c2, ad, e, -e_addLL]
theorem way1 {l l2 : List PyData} {w s : Str} {ws : List Str} {k : Nat} {a : Int} (h : ∀ y ∈ ws, PlN 305 y) (hn : ws.length ≤ 306) (dr : F__law_draw [.own true l, .pur (.int 3)] = some (.pur (.int a), [.own true l2, .und])) (cs : cStr [.int a] = some (.pur (.str s))) (ps : PlN 60 s) :
    ∃ z, (xRet (evBin fJoin (evC (.str " ")) (evFz (evBin opAdd (evFz (evBin opAdd (evFz (evSl (evL 2) evNo (evPart (evL 3)))) (evFz (evLst (evCons (evFz (evBlt cStr (evCons (evFz (evCall F__law_draw (arR 0 (arV (evC (.int 3)) arN)))) evNil))) evNil))))) (evFz (evSl (evL 2) (evPart (evL 3)) evNo)))))) (B52 l w ws k 1 .und) = some (.ret (.pur (.str z)) (B52 l2 w ws k 1 .und)) ∧ Pl z := by
  obtain ⟨z, e, p⟩ := join_pl (k := 305) (m := 613) (ys := ws.take k ++ [s] ++ ws.drop k) (fun y hy => (List.mem_append.mp hy).elim (fun x => (List.mem_append.mp x).elim (fun x => h y (List.mem_of_mem_take x)) fun x => by rw [List.mem_singleton.mp x]; exact ps.up (by decide)) fun x => h y (List.mem_of_mem_drop x)) (by rw [List.length_append, List.length_append, List.length_take, List.length_drop, List.length_singleton]; omega) (by decide)
  refine ⟨z, ?_, p.pl (by decide)⟩
  have c1 := cutA PyData.str ws k
  have c2 := cutB PyData.str ws k
  have ad : opAdd (.list ((ws.take k).map .str)) (.list [.str s]) = some (.own false ((ws.take k ++ [s]).map .str)) := by
    rw [e_addLL, if_pos (by rw [List.length_map, List.length_take, sizeLine_eq]; simp; omega), List.map_append]; rfl
  have ad2 : opAdd (.list ((ws.take k ++ [s]).map .str)) (.list ((ws.drop k).map .str)) = some (.own false ((ws.take k ++ [s] ++ ws.drop k).map .str)) := by
    rw [e_addLL, if_pos (by rw [List.length_map, List.length_map, List.length_append, List.length_take, List.length_drop, sizeLine_eq]; simp; omega), List.map_append (l₂ := ws.drop k)]
  unfold B52
  generalize (k : Int) = K at *
  generalize ws.map PyData.str = W at *
  generalize (ws.take k).map PyData.str = W1 at *
  generalize (ws.drop k).map PyData.str = W2 at *
  generalize (ws.take k ++ [s]).map PyData.str = W4 at *
  generalize (ws.take k ++ [s] ++ ws.drop k).map PyData.str = W3 at *
  generalize F__law_draw = fd at *
  simp [c1, c2, ad, ad2, e, dr, cs, sizeLine_eq, -e_addLL, -e_strI]
end K52

/-! text T52K -/
set_option maxHeartbeats 2000000
namespace K52
open PySem IX
def SL52 : List Str := ["0", "01", "-1", "+1", "", "x", "keep", "lf", "cr", "LF", "Keep", repS "9" 60, repS "9" 61, "1.0", "none"]
theorem sl_pl : ∀ y ∈ SL52, PlN 61 y := by
  have : SL52.all (fun y => y.cps.toList.all (fun c => decide (c < 128)) && decide (y.length ≤ 61)) = true := by decide +kernel
  intro y hy
  have h := List.all_eq_true.mp this y hy
  rw [Bool.and_eq_true, decide_eq_true_eq] at h
  exact ⟨fun c hc => by simpa using List.all_eq_true.mp h.1 c hc, h.2⟩
theorem idxL {ys : List Str} {i : Int} (h0 : 0 ≤ i) (h1 : i < (ys.length : Int)) : ∃ s ∈ ys, fIdx (.list (ys.map .str)) (.int i) = some (.pur (.str s)) := by
  obtain ⟨n, rfl⟩ := Int.eq_ofNat_of_zero_le h0
  have hn : n < ys.length := by omega
  refine ⟨ys[n], List.getElem_mem _, ?_⟩
  have e : L2.atI (ys.map PyData.str) ((n : Nat) : Int) = some (.str ys[n]) := by
    unfold L2.atI L2.ixN
    simp [hn]
  simp [e]
theorem nines : opMul (.str "9") (.int 60) = some (.pur (.str (repS "9" 60))) ∧ opMul (.str "9") (.int 61) = some (.pur (.str (repS "9" 61))) := by
  have : ("9" : Str).length = 1 := by decide +kernel
  exact ⟨by rw [e_mulS, if_pos ⟨by decide, by decide, by rw [this, sizeLine_eq]; decide⟩], by rw [e_mulS, if_pos ⟨by decide, by decide, by rw [this, sizeLine_eq]; decide⟩]⟩
theorem way2a {l : List PyData} {w : Str} {ws : List Str} {k : Int} : (xSet 5 (evLst (evCons (evC (.str "0")) (evCons (evC (.str "01")) (evCons (evC (.str "-1")) (evCons (evC (.str "+1")) (evCons (evC (.str "")) (evCons (evC (.str "x")) (evCons (evC (.str "keep")) (evCons (evC (.str "lf")) (evCons (evC (.str "cr")) (evCons (evC (.str "LF")) (evCons (evC (.str "Keep")) (evCons (evFz (evBin opMul (evC (.str "9")) (evC (.int 60)))) (evCons (evFz (evBin opMul (evC (.str "9")) (evC (.int 61)))) (evCons (evC (.str "1.0")) (evCons (evC (.str "none")) evNil))))))))))))))))) (B52 l w ws k 2 .und) = some (.nxt (B52 l w ws k 2 (.own false (SL52.map .str)))) := by
  obtain ⟨n1, n2⟩ := nines
  unfold B52 SL52
  generalize ws.map PyData.str = W at *
  generalize repS "9" 60 = r1 at *
  generalize repS "9" 61 = r2 at *
  simp [n1, n2, sizeLine_eq, -e_mulS]
theorem way2b {l l2 : List PyData} {w s : Str} {ws : List Str} {k : Nat} {a : Int} (hk : k < ws.length) (dr : F__law_draw [.own true l, .pur (.int 15)] = some (.pur (.int a), [.own true l2, .und])) (ix : fIdx (.list (SL52.map .str)) (.int a) = some (.pur (.str s))) :
    (xSetI 2 (evFz (evBin fIdx (evV 5) (evFz (evCall F__law_draw (arR 0 (arV (evC (.int 15)) arN)))))) (evL 3)) (B52 l w ws k 2 (.own false (SL52.map .str))) = some (.nxt (B52 l2 w (ws.set k s) k 2 (.pur (.list (SL52.map .str))))) := by
  have ixk : L2.ixN (ws.map PyData.str).length ((k : Nat) : Int) = some k := by
    unfold L2.ixN; simp [hk]
  have se : (ws.set k s).map PyData.str = (ws.map PyData.str).set k (.str s) := List.map_set ..
  unfold B52
  rw [se]
  generalize ws.map PyData.str = W at *
  generalize SL52.map PyData.str = S at *
  generalize F__law_draw = fd at *
  generalize ((k : Nat) : Int) = K at *
  simp [dr, ix, ixk, ownAt_def]
end K52

/-! text T52L -/
set_option maxHeartbeats 2000000
namespace K52
open PySem IX
theorem cutS_pl {n : Nat} {w : Str} (h : PlN n w) (lo hi : Option Int) : PlN n (L2.cutS w lo hi) := by
  have e : (L2.cutS w lo hi).cps.toList = (w.cps.toList.drop (HT.sIx w.length 0 lo)).take (HT.sIx w.length w.length hi - HT.sIx w.length 0 lo) := by unfold L2.cutS; simp
  have hl := h.2
  rw [len_w] at hl
  refine ⟨fun c hc => ?_, ?_⟩
  · rw [e] at hc
    exact h.1 c (List.mem_of_mem_drop (List.mem_of_mem_take hc))
  · rw [len_w, e, List.length_take, List.length_drop]; omega
theorem idxS {z : Str} {r : Int} (h0 : 0 ≤ r) (h1 : r < (z.length : Int)) (hl : z.length ≤ 16777216) : ∃ c ∈ z.cps.toList, fIdx (.str z) (.int r) = some (.pur (.str (chS c))) := by
  have hz : z.cps.toList.length = z.length := by simp [Str.length]
  have hk : r.toNat < z.cps.toList.length := by omega
  refine ⟨z.cps.toList[r.toNat], List.getElem_mem _, ?_⟩
  have e : L2.atI z.cps.toList r = some z.cps.toList[r.toNat] := by
    unfold L2.atI L2.ixN
    rw [if_pos h0, if_pos (by omega)]
    exact List.getElem?_eq_getElem hk
  simp [e, hl, sizeLine_eq]
theorem sg_facts : ("0123klfcrep -" : Str).length = 13 ∧ ∀ c ∈ ("0123klfcrep -" : Str).cps.toList, c < 128 := by
  refine ⟨by decide +kernel, ?_⟩
  have : ("0123klfcrep -" : Str).cps.toList.all (fun c => decide (c < 128)) = true := by decide +kernel
  intro c hc
  simpa using List.all_eq_true.mp this c hc
theorem rep_pl {c : Nat} {d : Int} (hc : c < 128) (h0 : 0 ≤ d) (h1 : d < 2) : opMul (.str (chS c)) (.int d) = some (.pur (.str (repS (chS c) d))) ∧ PlN 1 (repS (chS c) d) := by
  refine ⟨by rw [e_mulS, if_pos ⟨by omega, by omega, by show 1 * d.toNat ≤ _; rw [sizeLine_eq]; omega⟩], ?_⟩
  rcases (by omega : d = 0 ∨ d = 1) with rfl | rfl
  · exact ⟨fun x hx => (by simp [repS] at hx), by simp [repS, Str.length]⟩
  · refine ⟨fun x hx => ?_, by simp [repS, Str.length]⟩
    have : x = c := by simpa [repS] using hx
    omega
theorem bstep {n T : Nat} {l : List PyData} {w : Str} {s2 s3 s4 s5 s7 s8 s9 : Slot} (h : PlN n w) (hn : n ≤ 5000) (hr : Rng T l) (hT : T + 10 < 2 ^ 60) (h8 : s8.par = false) (h9 : s9.par = false) :
    ∃ w' l' t8 t9, fb__law_bent_1 [.own true l, .pur (.str w), s2, s3, s4, s5, .pur (.str "0123klfcrep -"), s7, s8, s9] = some (.nxt [.own true l', .pur (.str w'), s2, s3, s4, s5, .pur (.str "0123klfcrep -"), s7, t8, t9]) ∧ PlN (n + 1 + n) w' ∧ Rng (T + 4) l' ∧ t8.par = false ∧ t9.par = false := by
  have hl := h.2
  have hL := len_ok (w := w) (by omega)
  rw [← len_w] at hL
  obtain ⟨g1, g2⟩ := sg_facts
  obtain ⟨a, l1, d1, a0, a1, r1⟩ := rdraw_ok (m := (w.length : Int) + 1) hr (by omega) (by omega) (by omega)
  obtain ⟨b, l2, d2, b0, b1, r2⟩ := rdraw_ok (m := 13) r1 (by decide) (by decide) (by omega)
  obtain ⟨c, l3, d3, c0, c1, r3⟩ := rdraw_ok (m := 2) r2 (by decide) (by decide) (by omega)
  obtain ⟨d, l4, d4, e0, e1, r4⟩ := rdraw_ok (m := 2) r3 (by decide) (by decide) (by omega)
  obtain ⟨x, hx, ix⟩ := idxS (z := "0123klfcrep -") (r := b) b0 (by rw [g1]; exact b1) (by rw [g1]; decide)
  obtain ⟨m1, m2⟩ := rep_pl (g2 x hx) c0 c1
  have hS : cLen [.str "0123klfcrep -"] = some (.pur (.int 13)) := by rw [e_lenS, if_pos (by rw [g1, sizeLine_eq]; decide), g1]; rfl
  have pA := cutS_pl h none (some a)
  have pB := cutS_pl h (some (a + d)) none
  have p1 := plN_app pA m2
  have p2 := plN_app p1 pB
  have hz : w.length ≤ 16777216 := by omega
  have s1 : fSl (.str w) none (some a) = some (.pur (.str (L2.cutS w none (some a)))) := if_pos (by rw [sizeLine_eq]; exact hz)
  have s2' : fSl (.str w) (some (a + d)) none = some (.pur (.str (L2.cutS w (some (a + d)) none))) := if_pos (by rw [sizeLine_eq]; exact hz)
  have ad1 : opAdd (.str (L2.cutS w none (some a))) (.str (repS (chS x) c)) = some (.pur (.str (L2.cutS w none (some a) ++ repS (chS x) c))) := by
    rw [e_addSS, if_pos (by have := pA.2; have := m2.2; rw [sizeLine_eq]; omega)]
  have ad2 : opAdd (.str (L2.cutS w none (some a) ++ repS (chS x) c)) (.str (L2.cutS w (some (a + d)) none)) = some (.pur (.str (L2.cutS w none (some a) ++ repS (chS x) c ++ L2.cutS w (some (a + d)) none))) := by
    rw [e_addSS, if_pos (by have := p1.2; have := pB.2; rw [sizeLine_eq]; omega)]
  refine ⟨_, l4, .pur (.int a), .pur (.str (repS (chS x) c)), ?_, p2, r4, rfl, rfl⟩
  unfold fb__law_bent_1
  generalize (w.length : Int) = L at *
  generalize L2.cutS w none (some a) = C1 at *
  generalize L2.cutS w (some (a + d)) none = C2 at *
  generalize repS (chS x) c = R at *
  generalize chS x = X at *
  generalize (C1 ++ R ++ C2 : Str) = O at *
  generalize (C1 ++ R : Str) = O1 at *
  generalize ("0123klfcrep -" : Str) = S at *
  generalize F__law_draw = fd at *
  simp [hL, d1, hS, d2, ix, d3, m1, s1, ad1, d4, s2', ad2, h8, h9, -e_lenS, -e_addSS, -e_mulS]
end K52

/-! text T52M -/
set_option maxHeartbeats 2000000
namespace K52
open PySem IX
theorem xSeq_ret {x y : EvS} {env e : SEnv} {r : Slot} (h : x env = some (.ret r e)) : xSeq x y env = some (.ret r e) := by simp only [e_xSeq, h]
theorem ifE {l : List PyData} {w : Str} {ws : List Str} {k : Int} {i j : Int} {s : Slot} {x : EvS} : xIf (evTr (evBin opEq (evL 4) (evC (.int j)))) x xNil (B52 l w ws k i s) = if i = j then x (B52 l w ws k i s) else some (.nxt (B52 l w ws k i s)) := by
  unfold B52
  by_cases c : i = j
  · subst c; rw [if_pos rfl]; simp
  · rw [if_neg c]; simp [c]
theorem great_ok {T : Nat} {l : List PyData} (hr : Rng T l) (hT : T + 10 < 2 ^ 60) : ∃ v l', F__law_great [.own true l] = some (.pur (.int v), [.own true l']) ∧ 0 ≤ v ∧ v < 10 ^ 60 ∧ Rng (T + 5) l' := by
  obtain ⟨a, l1, d1, a0, a1, r1⟩ := rdraw_ok (m := 9) hr (by decide) (by decide) (by omega)
  obtain ⟨b, l2, d2, b0, b1, r2⟩ := rdraw_ok (m := 1000000) r1 (by decide) (by decide) (by omega)
  obtain ⟨c, l3, d3, c0, c1, r3⟩ := rdraw_ok (m := 10 ^ 30) r2 (by decide) (by decide) (by omega)
  obtain ⟨d, l4, d4, e0, e1, r4⟩ := rdraw_ok (m := 10 ^ 60) r3 (by decide) (by decide) (by omega)
  obtain ⟨p, l5, d5, p0, p1, r5⟩ := rdraw_ok (m := 4) r4 (by decide) (by decide) (by omega)
  have q1 : opPow (.int 10) (.int 6) = some (.pur (.int 1000000)) := by
    have p : powOk 10 6 = true := by decide +kernel
    simp [p]
  have q2 : opPow (.int 10) (.int 30) = some (.pur (.int (10 ^ 30))) := by
    have p : powOk 10 30 = true := by decide +kernel
    simp [p]
  have q3 : opPow (.int 10) (.int 60) = some (.pur (.int (10 ^ 60))) := by
    have p : powOk 10 60 = true := by decide +kernel
    simp [p]
  have ix : ∃ v, fIdx (.list [.int a, .int b, .int c, .int d]) (.int p) = some (.pur (.int v)) ∧ 0 ≤ v ∧ v < 10 ^ 60 := by
    rcases (by omega : p = 0 ∨ p = 1 ∨ p = 2 ∨ p = 3) with rfl | rfl | rfl | rfl
    · exact ⟨a, by simp [L2.atI, L2.ixN], a0, by omega⟩
    · exact ⟨b, by simp [L2.atI, L2.ixN], b0, by omega⟩
    · exact ⟨c, by simp [L2.atI, L2.ixN], c0, by omega⟩
    · exact ⟨d, by simp [L2.atI, L2.ixN], e0, by omega⟩
  obtain ⟨v, ix, v0, v1⟩ := ix
  refine ⟨v, l5, ?_, v0, v1, r5⟩
  generalize (10 ^ 30 : Int) = G30 at *
  generalize (10 ^ 60 : Int) = G60 at *
  unfold F__law_great x__law_great
  rw [runDef_def]
  generalize F__law_draw = fd at *
  simp [q1, q2, q3, d1, d2, d3, d4, d5, ix, sizeLine_eq]
theorem bends {s2 s3 s4 s5 : Slot} : ∀ (xs : List PyData) (n T : Nat) (l : List PyData) (w : Str) (s7 s8 s9 : Slot), PlN n w → (n + 1) * 2 ^ xs.length ≤ 5000 → Rng T l → T + 4 * xs.length + 10 < 2 ^ 60 → s7.par = false → s8.par = false → s9.par = false →
    ∃ w' l' t7 t8 t9, forL (gN 7) fb__law_bent_1 xs [.own true l, .pur (.str w), s2, s3, s4, s5, .pur (.str "0123klfcrep -"), s7, s8, s9] = some (.nxt [.own true l', .pur (.str w'), s2, s3, s4, s5, .pur (.str "0123klfcrep -"), t7, t8, t9]) ∧ PlN 5000 w' ∧ Rng (T + 4 * xs.length) l'
  | [], n, T, l, w, s7, s8, s9, h, hn, hr, hT, _, _, _ => ⟨w, l, s7, s8, s9, by simp, h.up (by simp at hn; omega), by simpa using hr⟩
  | x :: xs, n, T, l, w, s7, s8, s9, h, hn, hr, hT, h7, h8, h9 => by
    rw [List.length_cons] at hT hn
    rw [Nat.pow_succ] at hn
    have hp : 1 ≤ 2 ^ xs.length := Nat.one_le_two_pow
    have hq : (n + 1 + n + 1) * 2 ^ xs.length ≤ 5000 := by
      have : (n + 1 + n + 1) * 2 ^ xs.length = (n + 1) * (2 ^ xs.length * 2) := by
        rw [show n + 1 + n + 1 = (n + 1) * 2 by omega, Nat.mul_assoc, Nat.mul_comm 2]
      omega
    have hn5 : n ≤ 5000 := by
      have := Nat.le_mul_of_pos_right (n + 1) (show 0 < 2 ^ xs.length * 2 by omega)
      omega
    obtain ⟨w1, l1, t8, t9, e, p1, r1, g8, g9⟩ := bstep (s2 := s2) (s3 := s3) (s4 := s4) (s5 := s5) (s7 := .pur x) (s8 := s8) (s9 := s9) h hn5 hr (by omega) h8 h9
    obtain ⟨w2, l2, u7, u8, u9, e2, p2, r2⟩ := bends (s2 := s2) (s3 := s3) (s4 := s4) (s5 := s5) xs _ (T + 4) l1 w1 (.pur x) t8 t9 p1 hq r1 (by omega) rfl g8 g9
    refine ⟨w2, l2, u7, u8, u9, ?_, p2, r2.up (by rw [List.length_cons]; omega)⟩
    rw [e_for1, ← e2]
    generalize fb__law_bent_1 = fb at *
    generalize ("0123klfcrep -" : Str) = S at *
    simp [h7, e]
end K52

/-! text T52N -/
set_option maxHeartbeats 2000000
namespace K52
open PySem IX
theorem bent_ok {T : Nat} {l : List PyData} {w : Str} (h : PlN 305 w) (hr : Rng T l) (hT : T + 100 < 2 ^ 60) :
    ∃ w' l', F__law_bent [.own true l, .pur (.str w)] = some (.pur (.str w'), [.own true l', .und]) ∧ Pl w' ∧ Rng (T + 20) l' := by
  obtain ⟨hw, hn, hn1⟩ := wordsPl h
  have sp := split_bl w (by have := h.2; omega)
  generalize hws : (splM 32 w.cps.toList).map st = ws at *
  have hm : ((splM 32 w.cps.toList).map fun q => PyData.str (st q)) = ws.map PyData.str := by rw [← hws, List.map_map]; rfl
  rw [hm] at sp
  obtain ⟨kk, l1, d1, k0, k1, r1⟩ := rdraw_ok (m := (ws.length : Int)) hr (by omega) (by omega) (by omega)
  obtain ⟨k, rfl⟩ := Int.eq_ofNat_of_zero_le k0
  have hk : k < ws.length := by omega
  obtain ⟨wy, l2, d2, y0, y1, r2⟩ := rdraw_ok (m := 4) r1 (by decide) (by decide) (by omega)
  have A1 : (xSet 2 (evBin fSplit (evL 1) (evC (.str " ")))) [.own true l, .pur (.str w), .und, .und, .und, .und, .und, .und, .und, .und] = some (.nxt [.own true l, .pur (.str w), .own false (ws.map .str), .und, .und, .und, .und, .und, .und, .und]) := by
    generalize ws.map PyData.str = W at *
    simp [sp]
  have A2 : (xPar [3, 4] (slC (evCall F__law_draw (arR 0 (arV (evFz (evBlt cLen (evCons (evL 2) evNil))) arN))) (slC (evCall F__law_draw (arR 0 (arV (evC (.int 4)) arN))) slN))) [.own true l, .pur (.str w), .own false (ws.map .str), .und, .und, .und, .und, .und, .und, .und] = some (.nxt (B52 l2 w ws k wy .und)) := by
    have hL : cLen [.list (ws.map PyData.str)] = some (.pur (.int ws.length)) := by simp
    unfold B52
    generalize (ws.length : Int) = L at *
    generalize ws.map PyData.str = W at *
    generalize F__law_draw = fd at *
    generalize ((k : Nat) : Int) = K at *
    simp [hL, d1, d2]
  have fin : ∀ {wd : Str} {e : SEnv} {l' : List PyData} {o : PyData}, x__law_bent [.own true l, .pur (.str w), .und, .und, .und, .und, .und, .und, .und, .und] = some (.ret (.pur (.str wd)) (.own true l' :: .pur o :: e)) → F__law_bent [.own true l, .pur (.str w)] = some (.pur (.str wd), [.own true l', .und]) := fun hx => runDef_ret (x := x__law_bent) (N := 10) hx (by simp [outsOf])
  have nx : ∀ {j : Int} {x : EvS} {i : Int}, i ≠ j → xIf (evTr (evBin opEq (evL 4) (evC (.int j)))) x xNil (B52 l2 w ws k i .und) = some (.nxt (B52 l2 w ws k i .und)) := fun c => by rw [ifE, if_neg c]
  have yx : ∀ {j : Int} {x : EvS}, xIf (evTr (evBin opEq (evL 4) (evC (.int j)))) x xNil (B52 l2 w ws k j .und) = x (B52 l2 w ws k j .und) := by intro j x; rw [ifE, if_pos rfl]
  rcases (by omega : wy = 0 ∨ wy = 1 ∨ wy = 2 ∨ wy = 3) with rfl | rfl | rfl | rfl
  · obtain ⟨z, e, p⟩ := way0 (l := l2) (w := w) (k := k) hw hn
    exact ⟨z, l2, fin ((xSeq_nxt A1).trans ((xSeq_nxt A2).trans (xSeq_ret (yx.trans e)))), p, r2.up (by omega)⟩
  · obtain ⟨a, l3, d3, a0, a1, r3⟩ := rdraw_ok (m := 3) r2 (by decide) (by decide) (by omega)
    obtain ⟨s, cs, ps⟩ := str_ok (i := a) a0 (by omega)
    obtain ⟨z, e, p⟩ := way1 (l := l2) (w := w) (k := k) hw hn d3 cs ps
    exact ⟨z, l3, fin ((xSeq_nxt A1).trans ((xSeq_nxt A2).trans ((xSeq_nxt (nx (by decide))).trans (xSeq_ret (yx.trans e))))), p, r3.up (by omega)⟩
  · obtain ⟨a, l3, d3, a0, a1, r3⟩ := rdraw_ok (m := 15) r2 (by decide) (by decide) (by omega)
    obtain ⟨s, sm, ix⟩ := idxL (ys := SL52) (i := a) a0 (by show a < 15; exact a1)
    obtain ⟨z, e, p⟩ := join_pl (k := 305) (m := 306) (ys := ws.set k s) (fun y hy => (List.mem_or_eq_of_mem_set hy).elim (hw y) fun q => q ▸ (sl_pl s sm).up (by decide)) (by rw [List.length_set]; omega) (by decide)
    have R : (xRet (evBin fJoin (evC (.str " ")) (evL 2))) (B52 l3 w (ws.set k s) k 2 (.pur (.list (SL52.map .str)))) = some (.ret (.pur (.str z)) (B52 l3 w (ws.set k s) k 2 (.pur (.list (SL52.map .str))))) := by
      unfold B52
      generalize (ws.set k s).map PyData.str = W at *
      generalize SL52.map PyData.str = S at *
      simp [e]
    exact ⟨z, l3, fin ((xSeq_nxt A1).trans ((xSeq_nxt A2).trans ((xSeq_nxt (nx (by decide))).trans ((xSeq_nxt (nx (by decide))).trans (xSeq_ret (yx.trans ((xSeq_nxt way2a).trans ((xSeq_nxt (way2b hk d3 ix)).trans R)))))))), p.pl (by decide), r3.up (by omega)⟩
  · obtain ⟨a, l3, d3, a0, a1, r3⟩ := rdraw_ok (m := 3) r2 (by decide) (by decide) (by omega)
    have hla : (rangeD 0 (1 + a).toNat).length ≤ 3 := by simp [rangeD]; omega
    obtain ⟨w2, l4, t7, t8, t9, e, p, r4⟩ := bends (s2 := .own false (ws.map .str)) (s3 := .pur (.int k)) (s4 := .pur (.int 3)) (s5 := .und) (rangeD 0 (1 + a).toNat) 305 _ l3 w .und .und .und h (by
      have := Nat.pow_le_pow_right (show 0 < 2 by decide) hla
      omega) r3 (by omega) rfl rfl rfl
    have S1 : (xSet 6 (evPu (evC (.str "0123klfcrep -")))) (B52 l2 w ws k 3 .und) = some (.nxt [.own true l2, .pur (.str w), .own false (ws.map .str), .pur (.int k), .pur (.int 3), .und, .pur (.str "0123klfcrep -"), .und, .und, .und]) := by
      unfold B52
      generalize ws.map PyData.str = W at *
      generalize ("0123klfcrep -" : Str) = S at *
      simp
    have S2 : (xFor (evIter cRange1 (evCons (evFz (evBin opAdd (evC (.int 1)) (evFz (evCall F__law_draw (arR 0 (arV (evC (.int 3)) arN)))))) evNil)) (gN 7) fb__law_bent_1) [.own true l2, .pur (.str w), .own false (ws.map .str), .pur (.int k), .pur (.int 3), .und, .pur (.str "0123klfcrep -"), .und, .und, .und] = some (.nxt [.own true l4, .pur (.str w2), .own false (ws.map .str), .pur (.int k), .pur (.int 3), .und, .pur (.str "0123klfcrep -"), t7, t8, t9]) := by
      rw [← e]
      generalize ws.map PyData.str = W at *
      generalize ("0123klfcrep -" : Str) = S at *
      generalize F__law_draw = fd at *
      generalize fb__law_bent_1 = fb at *
      have q : (-4611686018427387904 : Int) ≤ 1 + a ∧ 1 + a < 4611686018427387904 := by omega
      simp [d3, sizeLine_eq]
      rw [if_pos q]; rfl
    have S3 : (xRet (evM 1)) [.own true l4, .pur (.str w2), .own false (ws.map .str), .pur (.int k), .pur (.int 3), .und, .pur (.str "0123klfcrep -"), t7, t8, t9] = some (.ret (.pur (.str w2)) [.own true l4, .pur (.str w2), .own false (ws.map .str), .pur (.int k), .pur (.int 3), .und, .pur (.str "0123klfcrep -"), t7, t8, t9]) := by
      simp
    exact ⟨w2, l4, fin ((xSeq_nxt A1).trans ((xSeq_nxt A2).trans ((xSeq_nxt (nx (by decide))).trans ((xSeq_nxt (nx (by decide))).trans ((xSeq_nxt (nx (by decide))).trans ((xSeq_nxt S1).trans ((xSeq_nxt S2).trans S3))))))), p.pl (by decide), r4.up (by omega)⟩
end K52

/-! text T52O -/
set_option maxHeartbeats 2000000
namespace K52
open PySem IX
theorem greats {s0 s2 s3 s4 s5 s7 s8 : Slot} : ∀ (xs : List PyData) (T : Nat) (l : List PyData) (acc : List Str), Rng T l → T + 5 * xs.length + 10 < 2 ^ 60 → (∀ y ∈ acc, PlN 60 y) → acc.length + xs.length ≤ 10 →
    ∃ (l' : List PyData) (ys : List Str), compL [6] (gN 6) evYes ce_law_1 xs [s0, .own false l, s2, s3, s4, s5, .und, s7, s8] (acc.map .str) = some (ys.map .str, [s0, .own false l', s2, s3, s4, s5, .und, s7, s8]) ∧ (∀ y ∈ ys, PlN 60 y) ∧ ys.length = acc.length + xs.length ∧ Rng (T + 5 * xs.length) l'
  | [], T, l, acc, hr, hT, ha, hn => ⟨l, acc, by simp, ha, by simp, by simpa using hr⟩
  | x :: xs, T, l, acc, hr, hT, ha, hn => by
    rw [List.length_cons] at hT hn
    obtain ⟨v, l1, d1, v0, v1, r1⟩ := great_ok hr (by omega)
    obtain ⟨z, cs, pz⟩ := str_ok v0 v1
    obtain ⟨l2, ys, e2, hy, hl, r2⟩ := greats (s0 := s0) (s2 := s2) (s3 := s3) (s4 := s4) (s5 := s5) (s7 := s7) (s8 := s8) xs (T + 5) l1 (acc ++ [z]) r1 (by omega) (fun y hy => (List.mem_append.mp hy).elim (ha y) fun q => by rw [List.mem_singleton.mp q]; exact pz) (by rw [List.length_append, List.length_singleton]; omega)
    refine ⟨l2, ys, ?_, hy, by rw [hl, List.length_append, List.length_singleton, List.length_cons]; omega, r2.up (by rw [List.length_cons]; omega)⟩
    have hlen : (acc.map PyData.str).length < sizeLine := by rw [List.length_map, sizeLine_eq]; omega
    rw [List.map_append] at e2
    have ec : ce_law_1 [s0, .own false l, s2, s3, s4, s5, .pur x, s7, s8] = some (.str z, [s0, .own false l1, s2, s3, s4, s5, .pur x, s7, s8]) := by
      unfold ce_law_1
      generalize F__law_great = fg at *
      simp [d1, cs, -e_strI]
    rw [e_comp1, ← e2]
    generalize ce_law_1 = c1 at *
    generalize acc.map PyData.str = A at *
    simp [ec, hlen]
theorem plw : PlN 60 "keep" ∧ PlN 60 "lf" ∧ PlN 60 "cr" := by
  have k : ∀ (a : Str), (a.cps.toList.all (fun c => decide (c < 128)) && decide (a.length ≤ 60)) = true → PlN 60 a := by
    intro a h
    rw [Bool.and_eq_true, decide_eq_true_eq] at h
    exact ⟨fun c hc => by simpa using List.all_eq_true.mp h.1 c hc, h.2⟩
  exact ⟨k _ (by decide +kernel), k _ (by decide +kernel), k _ (by decide +kernel)⟩
theorem turns {s0 s2 s3 s4 s7 s8 : Slot} {w : Str} (h : PlN 305 w) : ∀ (xs : List PyData) (T : Nat) (l : List PyData) (s6 : Slot), Rng T l → T + 20 * xs.length + 100 < 2 ^ 60 → (∀ x ∈ xs, ∃ i : Int, x = .int i) → s6.par = false →
    ∃ l' t6, forL (gN 6) if_law_1 xs [s0, .own false l, s2, s3, s4, .pur (.str w), s6, s7, s8] = some (.nxt [s0, .own false l', s2, s3, s4, .pur (.str w), t6, s7, s8]) ∧ Rng (T + 20 * xs.length) l' ∧ t6.par = false
  | [], T, l, s6, hr, hT, _, h6 => ⟨l, s6, by simp, by simpa using hr, h6⟩
  | x :: xs, T, l, s6, hr, hT, hx, h6 => by
    rw [List.length_cons] at hT
    obtain ⟨i, rfl⟩ := hx x (List.mem_cons_self ..)
    have one : ∃ l1, if_law_1 [s0, .own false l, s2, s3, s4, .pur (.str w), .pur (.int i), s7, s8] = some (.nxt [s0, .own false l1, s2, s3, s4, .pur (.str w), .pur (.int i), s7, s8]) ∧ Rng (T + 20) l1 := by
      by_cases c : i = 0
      · subst c
        refine ⟨l, ?_, hr.up (by omega)⟩
        have R := right52 (h.pl (by decide))
        unfold if_law_1
        generalize F__law_right = fr at *
        generalize F__law_bent = fb at *
        simp [R]
      · obtain ⟨w1, l1, d1, p1, r1⟩ := bent_ok h hr (by omega)
        refine ⟨l1, ?_, r1⟩
        have R := right52 p1
        unfold if_law_1
        generalize F__law_right = fr at *
        generalize F__law_bent = fb at *
        simp [R, d1, c]
    obtain ⟨l1, e, r1⟩ := one
    obtain ⟨l2, t6, e2, r2, q6⟩ := turns (s0 := s0) (s2 := s2) (s3 := s3) (s4 := s4) (s7 := s7) (s8 := s8) h xs (T + 20) l1 (.pur (.int i)) r1 (by omega) (fun x hx' => hx x (List.mem_cons_of_mem _ hx')) rfl
    refine ⟨l2, t6, ?_, r2.up (by rw [List.length_cons]; omega), q6⟩
    rw [e_for1, ← e2]
    generalize if_law_1 = fb at *
    simp [h6, e]
end K52

/-! text T52P -/
set_option maxHeartbeats 2000000
namespace K52
open PySem IX
theorem pick {p : Int} (h0 : 0 ≤ p) (h1 : p < 3) : ∃ (a : Str) (m : Int), fIdx (.list [.tuple [.str "keep", .int 2], .tuple [.str "lf", .int 4], .tuple [.str "cr", .int 3]]) (.int p) = some (.pur (.tuple [.str a, .int m])) ∧ PlN 60 a ∧ 0 ≤ m ∧ m ≤ 4 := by
  obtain ⟨a, b, c⟩ := plw
  rcases (by omega : p = 0 ∨ p = 1 ∨ p = 2) with rfl | rfl | rfl
  · exact ⟨"keep", 2, by simp [L2.atI, L2.ixN], a, by decide, by decide⟩
  · exact ⟨"lf", 4, by simp [L2.atI, L2.ixN], b, by decide, by decide⟩
  · exact ⟨"cr", 3, by simp [L2.atI, L2.ixN], c, by decide, by decide⟩
theorem lap52 {T : Nat} {l : List PyData} {s0 s2 s3 s4 s5 s6 s7 s8 : Slot} (hr : Rng T l) (hT : T + 300 < 2 ^ 60) (h2 : s2.par = false) (h3 : s3.par = false) (h4 : s4.par = false) (h5 : s5.par = false) (h6 : s6.par = false) :
    ∃ l' t3 t4 t5 t6, fb_law_1 [s0, .own false l, s2, s3, s4, s5, s6, s7, s8] = some (.nxt [s0, .own false l', s2, t3, t4, t5, t6, s7, s8]) ∧ Rng (T + 150) l' ∧ t3.par = false ∧ t4.par = false ∧ t5.par = false ∧ t6.par = false := by
  obtain ⟨p, l1, d1, p0, p1, r1⟩ := rdraw_ok (m := 3) hr (by decide) (by decide) (by omega)
  obtain ⟨a, m, ix, pa, m0, m1⟩ := pick p0 p1
  have hl : (rangeD 0 m.toNat).length ≤ 4 := by simp [rangeD]; omega
  obtain ⟨l2, ys, ec, hy, hn, r2⟩ := greats (s0 := s0) (s2 := s2) (s3 := .pur (.str a)) (s4 := .pur (.int m)) (s5 := s5) (s7 := s7) (s8 := s8) (rangeD 0 m.toNat) _ l1 [] r1 (by omega) (fun y hy => (by cases hy)) (by simp; omega)
  rw [List.length_nil] at hn
  obtain ⟨z, ej, pz⟩ := join_pl (k := 60) (m := 5) (ys := a :: ys) (fun y hy' => (List.mem_cons.mp hy').elim (fun q => q ▸ pa) (hy y)) (by rw [List.length_cons]; omega) (by decide)
  have hx : ∀ x ∈ rangeD 0 5, ∃ i : Int, x = .int i := by
    intro x hx
    simp only [rangeD, List.mem_map] at hx
    obtain ⟨q, _, rfl⟩ := hx
    exact ⟨_, rfl⟩
  have h5l : (rangeD 0 5).length = 5 := by decide +kernel
  obtain ⟨l3, t6, et, r3, g6⟩ := turns (s0 := s0) (s2 := s2) (s3 := .pur (.str a)) (s4 := .pur (.int m)) (s7 := s7) (s8 := s8) (w := z) pz (rangeD 0 5) _ l2 .und r2 (by rw [h5l]; omega) hx rfl
  rw [h5l] at r3
  refine ⟨l3, .pur (.str a), .pur (.int m), .pur (.str z), t6, ?_, r3.up (by omega), rfl, rfl, rfl, g6⟩
  have A1 : (xSetT (gT 2 (gsC (gN 3) (gsC (gN 4) gsN))) (evFz (evBin fIdx (evFz (evLst (evCons (evTup (evCons (evC (.str "keep")) (evCons (evC (.int 2)) evNil))) (evCons (evTup (evCons (evC (.str "lf")) (evCons (evC (.int 4)) evNil))) (evCons (evTup (evCons (evC (.str "cr")) (evCons (evC (.int 3)) evNil))) evNil))))) (evFz (evCall F__law_draw (arR 1 (arV (evC (.int 3)) arN))))))) [s0, .own false l, s2, s3, s4, s5, s6, s7, s8] = some (.nxt [s0, .own false l1, s2, .pur (.str a), .pur (.int m), s5, s6, s7, s8]) := by
    generalize ("keep" : Str) = k1 at *
    generalize ("lf" : Str) = k2 at *
    generalize ("cr" : Str) = k3 at *
    generalize F__law_draw = fd at *
    simp [d1, ix, sizeLine_eq, h3, h4]
  have A2 : (xSet 5 (evBin fJoin (evC (.str " ")) (evFz (evBin opAdd (evFz (evLst (evCons (evV 3) evNil))) (evFz (evComp [6] (evIter cRange1 (evCons (evL 4) evNil)) (gN 6) evYes ce_law_1)))))) [s0, .own false l1, s2, .pur (.str a), .pur (.int m), s5, s6, s7, s8] = some (.nxt [s0, .own false l2, s2, .pur (.str a), .pur (.int m), .pur (.str z), .und, s7, s8]) := by
    have q : (-4611686018427387904 : Int) ≤ m ∧ m < 4611686018427387904 := by omega
    have ad : opAdd (.list [.str a]) (.list (ys.map .str)) = some (.own false ((a :: ys).map .str)) := by
      rw [e_addLL, if_pos (by rw [List.length_map, sizeLine_eq]; simp; omega)]; rfl
    rw [List.map_nil] at ec
    generalize (a :: ys).map PyData.str = W2 at *
    generalize ys.map PyData.str = W1 at *
    generalize ce_law_1 = c1 at *
    simp [sizeLine_eq, q, ec, ad, ej, h5, h6, -e_addLL]
  have A3 : (xFor (evIter cRange1 (evCons (evC (.int 5)) evNil)) (gN 6) if_law_1) [s0, .own false l2, s2, .pur (.str a), .pur (.int m), .pur (.str z), .und, s7, s8] = some (.nxt [s0, .own false l3, s2, .pur (.str a), .pur (.int m), .pur (.str z), t6, s7, s8]) := by
    rw [← et]
    generalize if_law_1 = fb at *
    simp [sizeLine_eq]
  exact (xSeq_nxt A1).trans ((xSeq_nxt A2).trans A3)
theorem laps52 {s0 s7 s8 : Slot} : ∀ (xs : List PyData) (l : List PyData) (T : Nat) (s2 s3 s4 s5 s6 : Slot), Rng T l → T + 150 * xs.length + 300 < 2 ^ 60 → s2.par = false → s3.par = false → s4.par = false → s5.par = false → s6.par = false →
    ∃ l' t2 t3 t4 t5 t6, forL (gN 2) fb_law_1 xs [s0, .own false l, s2, s3, s4, s5, s6, s7, s8] = some (.nxt [s0, .own false l', t2, t3, t4, t5, t6, s7, s8])
  | [], l, T, s2, s3, s4, s5, s6, _, _, _, _, _, _, _ => ⟨l, s2, s3, s4, s5, s6, by simp⟩
  | x :: xs, l, T, s2, s3, s4, s5, s6, hr, hT, h2, h3, h4, h5, h6 => by
    rw [List.length_cons] at hT
    obtain ⟨l1, t3, t4, t5, t6, e, r1, p3, p4, p5, p6⟩ := lap52 (s0 := s0) (s2 := .pur x) (s7 := s7) (s8 := s8) hr (by omega) rfl h3 h4 h5 h6
    obtain ⟨l2, u2, u3, u4, u5, u6, e2⟩ := laps52 (s0 := s0) (s7 := s7) (s8 := s8) xs l1 (T + 150) (.pur x) t3 t4 t5 t6 r1 (by omega) rfl p3 p4 p5 p6
    refine ⟨l2, u2, u3, u4, u5, u6, ?_⟩
    rw [e_for1, ← e2]
    generalize fb_law_1 = fb at *
    simp [h2, e]
end K52

/-! text T52Q -/
set_option maxHeartbeats 2000000
namespace K52
open PySem IX
def LA : List PyData := [.str "keep 0 0\n", .str "\nkeep 0 0"]
def LB : List PyData := [.str "", .str " ", .str "keep", .str "keep 0 0", .str "keep 0 0 ", .str " keep 0 0", .str "keep 0  0", .str "keep 0 0 0", .str "lf 0 0 1 0"]
def LC : List PyData := [.str "lf 0 0 0 0", .str "lf 0 0 1", .str "cr 0 0 1", .str "cr 0 0 0", .str "cr 0 0", .str "KEEP 0 0"]
def LD : List PyData := [.str "keep -1 0", .str "keep,0,0", .str "lf 1 1 1 1 1"]
def plB : PyData → Bool
  | .str w => w.cps.toList.all (fun c => decide (c < 128)) && decide (w.length ≤ 200)
  | _ => false
theorem plB_ok {x : PyData} (h : plB x = true) : ∃ w, x = .str w ∧ Pl w := by
  unfold plB at h
  split at h
  · rename_i w
    rw [Bool.and_eq_true, decide_eq_true_eq] at h
    exact ⟨w, rfl, fun c hc => by simpa using List.all_eq_true.mp h.1 c hc, by have := h.2; omega⟩
  · cases h
theorem pl_all : ∀ x ∈ LA ++ LB ++ LC ++ LD, ∃ w, x = .str w ∧ Pl w := by
  have : (LA ++ LB ++ LC ++ LD).all plB = true := by decide +kernel
  intro x hx
  exact plB_ok (List.all_eq_true.mp this x hx)
theorem filt52 {s0 s1 s2 s3 s4 s5 s6 s7 : Slot} : ∀ (xs : List PyData), (∀ x ∈ xs, ∃ w, x = .str w ∧ Pl w) → compL [8] (gN 8) ct_law_1 (evV 8) xs [s0, s1, s2, s3, s4, s5, s6, s7, .und] [] = some ([], [s0, s1, s2, s3, s4, s5, s6, s7, .und])
  | [], _ => by simp
  | x :: xs, h => by
    obtain ⟨w, rfl, p⟩ := h x (List.mem_cons_self ..)
    have R := right52 p
    have e2 := filt52 (s0 := s0) (s1 := s1) (s2 := s2) (s3 := s3) (s4 := s4) (s5 := s5) (s6 := s6) (s7 := s7) xs fun y hy => h y (List.mem_cons_of_mem _ hy)
    have ec : ct_law_1 [s0, s1, s2, s3, s4, s5, s6, s7, .pur (.str w)] = some (false, [s0, s1, s2, s3, s4, s5, s6, s7, .pur (.str w)]) := by
      unfold ct_law_1
      generalize F__law_right = fr at *
      simp [R]
    rw [e_comp1, ← e2]
    generalize ct_law_1 = c1 at *
    simp [ec]
theorem fx1 {s0 s1 s2 s3 s4 s5 s6 s8 : Slot} : (xSet 7 (evLst (evCons (evC (.str "keep 0 0\n")) (evCons (evC (.str "\nkeep 0 0")) evNil)))) [s0, s1, s2, s3, s4, s5, s6, .und, s8] = some (.nxt [s0, s1, s2, s3, s4, s5, s6, .own false LA, s8]) := by
  simp [LA, sizeLine_eq]
theorem fxA {s0 s1 s2 s3 s4 s5 s6 s8 : Slot} {A B : List PyData} {ev : EvE} (h : ∀ s7, ev [s0, s1, s2, s3, s4, s5, s6, s7, s8] = some (.own false B, [s0, s1, s2, s3, s4, s5, s6, s7, s8])) (hl : A.length + B.length ≤ 1000) : (xSet 7 (evBin opAdd (evL 7) (evFz ev))) [s0, s1, s2, s3, s4, s5, s6, .own false A, s8] = some (.nxt [s0, s1, s2, s3, s4, s5, s6, .own false (A ++ B), s8]) := by
  have ad : opAdd (.list A) (.list B) = some (.own false (A ++ B)) := by rw [e_addLL, if_pos (by rw [sizeLine_eq]; omega)]
  simp [h, ad, -e_addLL]
theorem fx2 {env : SEnv} : (evLst (evCons (evC (.str "")) (evCons (evC (.str " ")) (evCons (evC (.str "keep")) (evCons (evC (.str "keep 0 0")) (evCons (evC (.str "keep 0 0 ")) (evCons (evC (.str " keep 0 0")) (evCons (evC (.str "keep 0  0")) (evCons (evC (.str "keep 0 0 0")) (evCons (evC (.str "lf 0 0 1 0")) evNil)))))))))) env = some (.own false LB, env) := by
  simp [LB, sizeLine_eq]
theorem fx3 {env : SEnv} : (evLst (evCons (evC (.str "lf 0 0 0 0")) (evCons (evC (.str "lf 0 0 1")) (evCons (evC (.str "cr 0 0 1")) (evCons (evC (.str "cr 0 0 0")) (evCons (evC (.str "cr 0 0")) (evCons (evC (.str "KEEP 0 0")) evNil))))))) env = some (.own false LC, env) := by
  simp [LC, sizeLine_eq]
theorem fx4 {env : SEnv} : (evLst (evCons (evC (.str "keep -1 0")) (evCons (evC (.str "keep,0,0")) (evCons (evC (.str "lf 1 1 1 1 1")) evNil)))) env = some (.own false LD, env) := by
  simp [LD, sizeLine_eq]
theorem eq_nil : opEq (.list []) (.list []) = some (.pur (.bool true)) := by with_unfolding_all rfl
theorem fxR {s0 s1 s2 s3 s4 s5 s6 : Slot} {L : List PyData} (h : ∀ x ∈ L, ∃ w, x = .str w ∧ Pl w) : (xRet (evBin opEq (evFz (evComp [8] (evIt (evV 7)) (gN 8) ct_law_1 (evV 8))) (evFz (evLst evNil)))) [s0, s1, s2, s3, s4, s5, s6, .own false L, .und] = some (.ret (.pur (.bool true)) [s0, s1, s2, s3, s4, s5, s6, .pur (.list L), .und]) := by
  have e := filt52 (s0 := s0) (s1 := s1) (s2 := s2) (s3 := s3) (s4 := s4) (s5 := s5) (s6 := s6) (s7 := .pur (.list L)) L h
  have e0 := eq_nil
  generalize ct_law_1 = c1 at *
  simp [e, e0, sizeLine_eq]
theorem step52 {fb : EvS} {ns : List Int} {l l' : List PyData} {t2 t3 t4 t5 t6 : Slot} (e2 : forL (gN 2) fb (rangeD 0 (8 + (if (ns.length : Int) < 12 then (ns.length : Int) else 12)).toNat) [.ext true 2 (.tuple (ns.map .int)), .own false l, .und, .und, .und, .und, .und, .und, .und] = some (.nxt [.ext true 2 (.tuple (ns.map .int)), .own false l', t2, t3, t4, t5, t6, .und, .und])) :
    (xFor (evIter cRange1 (evCons (evFz (evBin opAdd (evC (.int 8)) (evFz (evBlt cMin2 (evCons (evC (.int 12)) (evCons (evScLen 0) evNil)))))) evNil)) (gN 2) fb) [.ext true 2 (.tuple (ns.map .int)), .own false l, .und, .und, .und, .und, .und, .und, .und] = some (.nxt [.ext true 2 (.tuple (ns.map .int)), .own false l', t2, t3, t4, t5, t6, .und, .und]) := by
  rw [← e2]
  simp [scrAt_def, sizeLine_eq]
  rw [if_pos]
  · simp
  · exact ⟨by split <;> omega, by split <;> omega⟩
theorem law_true (ns : List Int) (h : ns.length ≤ 63) : ∃ outs, F_law [.ext true 2 (.tuple (ns.map PyData.int))] = some (.pur (.bool true), outs) := by
  obtain ⟨l, e, r⟩ := rng_ok ns h
  have hl : (rangeD 0 (8 + (if (ns.length : Int) < 12 then (ns.length : Int) else 12)).toNat).length ≤ 32 := by
    simp [rangeD]; split <;> omega
  obtain ⟨l', t2, t3, t4, t5, t6, e2⟩ := laps52 (s0 := .ext true 2 (.tuple (ns.map .int))) (s7 := .und) (s8 := .und) (rangeD 0 (8 + (if (ns.length : Int) < 12 then (ns.length : Int) else 12)).toNat) l 0 .und .und .und .und .und r (by omega) rfl rfl rfl rfl rfl
  have A := step52 e2
  have A1 : (xSet 1 (evCall F__law_rng (arR 0 arN))) [.ext true 2 (.tuple (ns.map .int)), .und, .und, .und, .und, .und, .und, .und, .und] = some (.nxt [.ext true 2 (.tuple (ns.map .int)), .own false l, .und, .und, .und, .und, .und, .und, .und]) := by
    generalize F__law_rng = fb at *
    simp [e]
  exact ⟨[.ext true 2 (.tuple (ns.map .int))], runDef_ret (x := x_law) (N := 9) ((xSeq_nxt A1).trans ((xSeq_nxt A).trans ((xSeq_nxt fx1).trans ((xSeq_nxt (fxA (fun _ => fx2) (by decide))).trans ((xSeq_nxt (fxA (fun _ => fx3) (by decide))).trans ((xSeq_nxt (fxA (fun _ => fx4) (by decide))).trans (fxR pl_all))))))) (by simp [outsOf])⟩
end K52

/-! text T52HD -/
set_option maxHeartbeats 0
namespace K52
open PySem PySem.Spec PyProof.Rows L2 IX
def d_check_form : He.DefD := ⟨("check_form", none), "check_form", "check_form", defArgs s_check_form, defBody s_check_form, defScope s_check_form, [], []⟩
def d_number_in : He.DefD := ⟨("number_in", none), "number_in", "number_in", defArgs s_number_in, defBody s_number_in, defScope s_number_in, [], []⟩
def d_read_form : He.DefD := ⟨("read_form", none), "read_form", "read_form", defArgs s_read_form, defBody s_read_form, defScope s_read_form, [], []⟩
def d__law_rng : He.DefD := ⟨("_law_rng", none), "_law_rng", "_law_rng", defArgs s__law_rng, defBody s__law_rng, defScope s__law_rng, [], []⟩
def d__law_draw : He.DefD := ⟨("_law_draw", none), "_law_draw", "_law_draw", defArgs s__law_draw, defBody s__law_draw, defScope s__law_draw, [], []⟩
def d__law_number : He.DefD := ⟨("_law_number", none), "_law_number", "_law_number", defArgs s__law_number, defBody s__law_number, defScope s__law_number, [], []⟩
def d__law_great : He.DefD := ⟨("_law_great", none), "_law_great", "_law_great", defArgs s__law_great, defBody s__law_great, defScope s__law_great, [], []⟩
def d__law_due : He.DefD := ⟨("_law_due", none), "_law_due", "_law_due", defArgs s__law_due, defBody s__law_due, defScope s__law_due, [], []⟩
def d__law_told : He.DefD := ⟨("_law_told", none), "_law_told", "_law_told", defArgs s__law_told, defBody s__law_told, defScope s__law_told, [], []⟩
def d__law_bent : He.DefD := ⟨("_law_bent", none), "_law_bent", "_law_bent", defArgs s__law_bent, defBody s__law_bent, defScope s__law_bent, [], []⟩
def d__law_right : He.DefD := ⟨("_law_right", none), "_law_right", "_law_right", defArgs s__law_right, defBody s__law_right, defScope s__law_right, [], []⟩
def d_law : He.DefD := ⟨("law", none), "law", "law", defArgs s_law, defBody s_law, defScope s_law, [], []⟩
def fn : List He.DefD := [d_check_form, d_number_in, d_read_form, d__law_rng, d__law_draw, d__law_number, d__law_great, d__law_due, d__law_told, d__law_bent, d__law_right, d_law]
def fa : List He.Fa := (.glo "check_form") :: (.glo "number_in") :: (.glo "read_form") :: (.glo "_law_rng") :: (.glo "_law_draw") :: (.glo "_law_number") :: (.glo "_law_great") :: (.glo "_law_due") :: (.glo "_law_told") :: (.glo "_law_bent") :: (.glo "_law_right") :: (.glo "law") :: (.glo "SIZES") :: (.free "ValueError") :: (.free "abs") :: (.free "all") :: (.free "int") :: (.free "isinstance") :: (.free "len") :: (.free "min") :: (.free "range") :: (.free "repr") :: (.free "str") :: (.free "tuple") :: (.free "super") :: (.glo "InvalidChain") :: (.glo "InvalidForm") :: (.glo "InvalidNumber") :: (.glo "InvalidPlace") :: (.glo "InvalidRun") :: (.glo "LineError") :: (.glo "NothingToUndo") :: (.glo "UnknownName") :: (.glo "Unreadable") :: (.exm "InvalidForm" "InvalidForm" true) :: (.exm "InvalidForm" "LineError" true) :: (.exm "Unreadable" "LineError" true) :: []
def ts : List He.Tab := [(fun K => He.ga K "SIZES", ["keep", "lf", "cr"])]
def cs : List (Str × PyData) := [("KEEP", (.str "keep")), ("BLANK", (.str " ")), ("DIGITS", (.str "0123456789")), ("MOST_DIGITS", (.int 60))]
def ds : List (Str × List (Str × PyData)) := [("SIZES", tab_SIZES)]
def xs : List Str := ["InvalidForm", "Unreadable"]
def ics : List Str := ["InvalidForm", "Unreadable"]
def iss : List (Str × (PySem.W.Frag → Value) × Bool) := [("InvalidForm", (fun K => .ref (He.ga K "Unreadable")), false), ("InvalidForm", (fun K => .type "ValueError"), true), ("Unreadable", (fun K => .ref (He.ga K "Unreadable")), true), ("Unreadable", (fun K => .type "ValueError"), true)]
def itu : List (Str × List Str × Bool) := [("InvalidForm", ["InvalidChain", "InvalidForm", "InvalidNumber", "InvalidPlace", "InvalidRun"], true), ("InvalidForm", ["NothingToUndo", "UnknownName"], false), ("Unreadable", ["InvalidChain", "InvalidForm", "InvalidNumber", "InvalidPlace", "InvalidRun"], false), ("Unreadable", ["NothingToUndo", "UnknownName"], false)]
def rs : List (Str × List (Str × PyData)) := []
def exB (K : PySem.W.Frag) : Bool := (((cs.all (fun p => cstB K p.1 p.2) && ds.all (fun p => dctB' K p.1 p.2)) && xs.all (fun c => xcB K FL c)) && ((ics.all fun c => icB K (He.ga K c)) && ((iss.all fun p => decide (PySem.W.kitOne K (.ref (He.ga K p.1)) (p.2.1 K) = some p.2.2)) && (itu.all fun p => decide (PySem.W.kitAny K (.ref (He.ga K p.1)) (p.2.1.map fun x => .ref (He.ga K x)) = some p.2.2))))) && rs.all (fun p => rplB K p.1 p.2)
abbrev R : PySem.W.OpenRow := PySem.W.OpenLaw.row PySem.Challenge.rw_lineends_k52_forms_read
abbrev hk : PySem.W.Hook := hookY 6 fa fn ts exB
def ob (s : PySem.W.SharedT) : He.AlX := obsY 6 fa fn ts exB (HandSHeadRun.getT s)
theorem ob_eq (s : PySem.W.SharedT) : ob s = hk.obs s.abs := obsY_eq (s := s.abs) fun a => HandSHeadRun.getT_eq s a
def loose : List PySem.Str := "__name__" :: "LineError" :: "InvalidChain" :: "InvalidRun" :: "InvalidForm" :: "InvalidNumber" :: "InvalidPlace" :: "UnknownName" :: "NothingToUndo" :: "Unreadable" :: "KEEP" :: "LF" :: "CR" :: "SIZES" :: "check_form" :: "BLANK" :: "DIGITS" :: "MOST_DIGITS" :: "number_in" :: "read_form" :: "_law_rng" :: "_law_draw" :: "_law_number" :: "_law_great" :: "_law_due" :: "_law_told" :: "_law_bent" :: "_law_right" :: []
abbrev qv := PySem.W.view R.prog [31]
theorem run_false (w : World) : HandSHeadRun.RunEq R qv hk ob 6000 loose (w.withFollow "special-get-raises" false) := by
  intro os
  kernel_rfl
theorem run_true (w : World) : HandSHeadRun.RunEq R qv hk ob 6000 loose (w.withFollow "special-get-raises" true) := by
  intro os
  kernel_rfl
theorem run (w : World) : HandSHeadRun.RunEq R qv hk ob 6000 loose w := PySem.W.byRow2 "special-get-raises" (P := fun w => HandSHeadRun.RunEq R qv hk ob 6000 loose w) run_false run_true w
theorem facts [KC] {P : Program} {w : World} {h : Heap} {mg : Str → Option Value} {f : Addr} (PX : XP P FL) (X : KC.K.In h) (G : h.Ns mainGlobals mg) (hfa : mg ("law" : Str) = some (.ref f)) (c : He.SaysX fa fn ts [] exB w h KC.K) :
    ∃ fd : FuncData, (∀ (s : Shared) (v : Value), BindsTo s fd ⟨[v], []⟩ [("script", v)]) ∧ ∀ base : Heap, FnG P w KC.K mg base CX0 6 f fd ["script"] (fun vs H Q _ => ∃ (a : Addr) (ns : List Int), vs = [.ref a] ∧ ns.length ≤ 63 ∧ SqL KC.K H a (ns.map V.int) ∧ ∀ v H', v = .bl true → Q v H') := by
  have cX : He.SaysX fa fn ts [] exB w h KC.K := c
  have cd : He.SaysD fa fn KC.K := cX.t.d
  have cm := Bool.and_eq_true_iff.mp cX.more
  have cx6 := Bool.and_eq_true_iff.mp cm.1
  have cx3 := Bool.and_eq_true_iff.mp cx6.1
  have cx4 := Bool.and_eq_true_iff.mp cx6.2
  have cx5 := Bool.and_eq_true_iff.mp cx4.2
  have cx := Bool.and_eq_true_iff.mp cx3.1
  obtain ⟨fd_check_form, D_check_form⟩ := cd.def_ 0 (d := d_check_form) rfl
  obtain ⟨fd_number_in, D_number_in⟩ := cd.def_ 1 (d := d_number_in) rfl
  obtain ⟨fd_read_form, D_read_form⟩ := cd.def_ 2 (d := d_read_form) rfl
  obtain ⟨fd__law_rng, D__law_rng⟩ := cd.def_ 3 (d := d__law_rng) rfl
  obtain ⟨fd__law_draw, D__law_draw⟩ := cd.def_ 4 (d := d__law_draw) rfl
  obtain ⟨fd__law_number, D__law_number⟩ := cd.def_ 5 (d := d__law_number) rfl
  obtain ⟨fd__law_great, D__law_great⟩ := cd.def_ 6 (d := d__law_great) rfl
  obtain ⟨fd__law_due, D__law_due⟩ := cd.def_ 7 (d := d__law_due) rfl
  obtain ⟨fd__law_told, D__law_told⟩ := cd.def_ 8 (d := d__law_told) rfl
  obtain ⟨fd__law_bent, D__law_bent⟩ := cd.def_ 9 (d := d__law_bent) rfl
  obtain ⟨fd__law_right, D__law_right⟩ := cd.def_ 10 (d := d__law_right) rfl
  obtain ⟨fd_law, D_law⟩ := cd.def_ 11 (d := d_law) rfl
  obtain ⟨es0, en0, KD0⟩ := cX.t.tab 0
  have Gx : Gs w mg := ⟨cst_ok X G (allB cx.1 1 rfl),
    cst_ok X G (allB cx.1 2 rfl),
    cst_ok X G (allB cx.1 0 rfl),
    cst_ok X G (allB cx.1 3 rfl),
    dct_ok X G (cd.fact 12 (f := .glo "SIZES") rfl) KD0 (allB cx.2 0 rfl),
    He.free_ok X G (cd.fact 13 (f := .free "ValueError") rfl),
    He.free_ok X G (cd.fact 14 (f := .free "abs") rfl),
    He.free_ok X G (cd.fact 15 (f := .free "all") rfl),
    He.free_ok X G (cd.fact 16 (f := .free "int") rfl),
    He.free_ok X G (cd.fact 17 (f := .free "isinstance") rfl),
    He.free_ok X G (cd.fact 18 (f := .free "len") rfl),
    He.free_ok X G (cd.fact 19 (f := .free "min") rfl),
    He.free_ok X G (cd.fact 20 (f := .free "range") rfl),
    He.free_ok X G (cd.fact 21 (f := .free "repr") rfl),
    He.free_ok X G (cd.fact 22 (f := .free "str") rfl),
    He.free_ok X G (cd.fact 23 (f := .free "tuple") rfl),
    He.free_ok X G (cd.fact 24 (f := .free "super") rfl),
    He.glo_ok X G (cd.fact 25 (f := .glo "InvalidChain") rfl),
    He.glo_ok X G (cd.fact 26 (f := .glo "InvalidForm") rfl),
    He.glo_ok X G (cd.fact 27 (f := .glo "InvalidNumber") rfl),
    He.glo_ok X G (cd.fact 28 (f := .glo "InvalidPlace") rfl),
    He.glo_ok X G (cd.fact 29 (f := .glo "InvalidRun") rfl),
    He.glo_ok X G (cd.fact 30 (f := .glo "LineError") rfl),
    He.glo_ok X G (cd.fact 31 (f := .glo "NothingToUndo") rfl),
    He.glo_ok X G (cd.fact 32 (f := .glo "UnknownName") rfl),
    He.glo_ok X G (cd.fact 33 (f := .glo "Unreadable") rfl),
    (xcB_ok (allB cx3.2 0 rfl)).1,
    ⟨(xcB_ok (allB cx3.2 0 rfl)).2, (xcB_ok (fl := FL) (allB cx3.2 0 rfl)).1.val⟩,
    (xcB_ok (allB cx3.2 1 rfl)).1,
    ⟨(xcB_ok (allB cx3.2 1 rfl)).2, (xcB_ok (fl := FL) (allB cx3.2 1 rfl)).1.val⟩,
    He.exm_ok (cd.fact 34 (f := .exm "InvalidForm" "InvalidForm" true) rfl),
    He.exm_ok (cd.fact 35 (f := .exm "InvalidForm" "LineError" true) rfl),
    He.exm_ok (cd.fact 36 (f := .exm "Unreadable" "LineError" true) rfl),
    icB_ok (allB cx4.1 0 rfl),
    icB_ok (allB cx4.1 1 rfl),
    of_decide_eq_true (allB cx5.1 0 rfl),
    of_decide_eq_true (allB cx5.1 1 rfl),
    of_decide_eq_true (allB cx5.1 2 rfl),
    of_decide_eq_true (allB cx5.1 3 rfl),
    of_decide_eq_true (allB cx5.2 0 rfl),
    of_decide_eq_true (allB cx5.2 1 rfl),
    of_decide_eq_true (allB cx5.2 2 rfl),
    of_decide_eq_true (allB cx5.2 3 rfl)⟩
  have e := hfa.symm.trans (He.glo_ok X G (cd.fact 11 (f := .glo "law") rfl))
  cases e
  refine ⟨fd_law, fun s v => FunD.bindsA (ps := ["script"]) D_law (fun _ _ _ _ _ _ us hl => match us, hl with | [_], _ => rfl) s [v] rfl, fun base => ?_⟩
  have h_check_form := ok_check_form (P := P) (base := base) Gx  D_check_form (He.glo_ok X G (cd.fact 0 (f := .glo "check_form") rfl))
  have hx_check_form := okX_check_form (P := P) (base := base) PX Gx  D_check_form (He.glo_ok X G (cd.fact 0 (f := .glo "check_form") rfl))
  have hn_check_form := okN_check_form (P := P) (base := base) PX Gx  D_check_form (He.glo_ok X G (cd.fact 0 (f := .glo "check_form") rfl))
  have h_number_in := ok_number_in (P := P) (base := base) Gx  D_number_in (He.glo_ok X G (cd.fact 1 (f := .glo "number_in") rfl))
  have h_read_form := ok_read_form (P := P) (base := base) Gx h_number_in h_check_form D_read_form (He.glo_ok X G (cd.fact 2 (f := .glo "read_form") rfl))
  have hx_read_form := okX_read_form (P := P) (base := base) PX Gx h_number_in hn_check_form D_read_form (He.glo_ok X G (cd.fact 2 (f := .glo "read_form") rfl))
  have h__law_rng := ok__law_rng (P := P) (base := base) Gx  D__law_rng (He.glo_ok X G (cd.fact 3 (f := .glo "_law_rng") rfl))
  have h__law_draw := ok__law_draw (P := P) (base := base) Gx  D__law_draw (He.glo_ok X G (cd.fact 4 (f := .glo "_law_draw") rfl))
  have h__law_number := ok__law_number (P := P) (base := base) Gx  D__law_number (He.glo_ok X G (cd.fact 5 (f := .glo "_law_number") rfl))
  have h__law_great := ok__law_great (P := P) (base := base) Gx h__law_draw D__law_great (He.glo_ok X G (cd.fact 6 (f := .glo "_law_great") rfl))
  have h__law_due := ok__law_due (P := P) (base := base) Gx h__law_number D__law_due (He.glo_ok X G (cd.fact 7 (f := .glo "_law_due") rfl))
  have h__law_told := ok__law_told (P := P) (base := base) Gx hx_read_form D__law_told (He.glo_ok X G (cd.fact 8 (f := .glo "_law_told") rfl))
  have h__law_bent := ok__law_bent (P := P) (base := base) Gx h__law_draw D__law_bent (He.glo_ok X G (cd.fact 9 (f := .glo "_law_bent") rfl))
  have h__law_right := ok__law_right (P := P) (base := base) Gx h__law_due h__law_told D__law_right (He.glo_ok X G (cd.fact 10 (f := .glo "_law_right") rfl))
  have h_law := ok_law (P := P) (base := base) Gx h__law_rng h__law_draw h__law_great h__law_right h__law_bent D_law (He.glo_ok X G (cd.fact 11 (f := .glo "law") rfl))
  obtain ⟨fA, fd, h1, h2, h3⟩ := h_law.ex
  have e2 := hfa.symm.trans h2
  cases e2
  have e3 : fd = fd_law := by
    obtain ⟨oc, od, dV, kV, doc, pm, an, cdv, ct, osl, e1, lk, _⟩ := h3.ex
    obtain ⟨oc2, od2, dV2, kV2, doc2, pm2, an2, cdv2, ct2, osl2, e4, lk2, _⟩ := D_law.ex
    have lk2' : KC.K.lookup (He.ga KC.K "law") = _ := lk2
    rw [lk] at lk2'
    injection lk2' with q
    injection q with _ _ q _
    injection q
  rw [← e3]
  exact law_endG h1 law_true
end K52
open PySem PySem.W PySem.Calls PyProof.Rows
theorem PySem.Challenge.cw_lineends_k52_forms_read_holds : PySem.Challenge.rw_lineends_k52_forms_read.Holds := by
  w_on; o_law
  refine HandSHeadRun.head_any (r := OpenLaw.row PySem.Challenge.rw_lineends_k52_forms_read) (q := view (OpenLaw.row PySem.Challenge.rw_lineends_k52_forms_read).prog [31]) (H := K52.hk) (ob := K52.ob) (M := 6000) (loose := K52.loose) (d := HandSHeadRun.topDef (OpenLaw.row PySem.Challenge.rw_lineends_k52_forms_read).prog 31) (kwd := []) K52.ob_eq
    (by kernel_rfl) (fun s => by kernel_rfl) K52.run (by kernel_rfl) (by kernel_rfl) (by kernel_rfl) (by rfl) (by first | assumption | decide +kernel) (by decide +kernel) ⟨rfl, rfl, rfl, rfl, rfl, by decide +kernel⟩ ?hw ?hc
  case hw => w_witness2
  case hc =>
    refine IX.walkG (l := PySem.Challenge.rw_lineends_k52_forms_read) (n := 63) (k := 6) (x := "script") (CX := L2.CX0) rfl (by decide) (by kernel_rfl) ⟨rfl, by decide, by decide⟩ ?F (fun _ _ _ _ z => z)
    intro w mg fa h Y G hmg0
    obtain ⟨K, KX, c⟩ := Y
    have hmg : mg ("law" : PySem.Str) = some (.ref fa) := by
      have e : (HandSHeadRun.topDef (OpenLaw.row PySem.Challenge.rw_lineends_k52_forms_read).prog 31).name = ("law" : PySem.Str) := by kernel_rfl
      rw [← e]
      exact hmg0
    letI : IX.KC := ⟨K⟩
    obtain ⟨fd, hb, hF⟩ := K52.facts (P := (PySem.Challenge.rw_lineends_k52_forms_read).prog) (w := w) ⟨by kernel_rfl, by kernel_rfl⟩ KX G hmg c
    exact ⟨K, fd, _, KX, hb, fun H a ns hl _ hS => ⟨a, ns, rfl, hl, hS, fun _ _ e => e⟩, fun base _ _ => hF base⟩
