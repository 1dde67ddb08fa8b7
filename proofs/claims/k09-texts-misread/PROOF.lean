import PyProof.Rows.All
import Wide.All
import OpenK.AllK
import Wide.FinOn
import HandS.ForMost
import HandS.Exc
import HandS.TryOnly
import HandS.ExcOwn
import HandS.ExcCtx
import HandS.HotCalls
import HandS.WordsExc
import HandS.TupAny
import HandS.Deep
import HandS.IsInst
import HandS.Style
import HandS.StrMore
import HandS.Defaults
import HandS.ClsMeth
import HandS.WordsDict
import HandS.ExcIs
import PyProof.StrOps2
import PyProof.FitsStr
import PyProof.ReprRoads
import PyProof.ReprLen
import KE.KExcIs
import HandS.ExcInit
import HandS.ExcField
import KE.KDictKeyed
import HandS.TupLen
import KE.GoesEnumKw
import HandS.Iter
import HandS.SuiteRaise
import PyProof.StrLawsTight
import PyProof.Rows.StrFacts2
import PySem.Challenge.RW_thirstwise_k09_texts_misread
set_option Elab.async false
set_option linter.all false
set_option maxRecDepth 100000
set_option maxHeartbeats 4000000
/-! TwA: data over the hand layer: values as plain data, local lists owned, what an expression, a test, a statement comes to. -/
namespace Tw
open PySem PySem.Spec PyProof.Rows L2

inductive Cl where
  | pot | cactus | garden | lives
  deriving DecidableEq
def Cl.names : Cl → List Str
  | .pot => ["name", "gap"]
  | .cactus => ["name", "gap", "rest"]
  | .garden => ["pots", "cans", "week", "closed", "order"]
  | .lives => ["garden", "table"]
/-- data: what a value comes to -/
inductive D where
  | non | bl (b : Bool) | int (i : Int) | str (x : Str)
  | lst (xs : List D) | tup (xs : List D) | obj (c : Cl) (xs : List D)
  | scr (ns : List Int) | ord (ks : List (Str × Int))
inductive Xc where
  | badPot | badRow | tooMany | noState | noPot | badDay
  deriving DecidableEq
/-- a refusal -/
inductive Xn where
  | badPot | tooMany | noState | noPot | badRow (n : Int) | badDay (n : Int)
  deriving DecidableEq
def Xn.cl : Xn → Xc
  | .badPot => .badPot | .tooMany => .tooMany | .noState => .noState | .noPot => .noPot | .badRow _ => .badRow | .badDay _ => .badDay
/-- where the classes stand -/
structure Ad where
  cl : Cl → Addr
  xc : Xc → Addr
  has : Cl → Bool
def ordK (ks : List (Str × Int)) : List (Key × V) := ks.map fun p => (Sum.inr p.1, V.int p.2)

mutual
inductive Rep (K : PySem.W.Frag) (A : Ad) (H : Hp) : V → D → Prop
  | non : Rep K A H .non .non
  | bl (b : Bool) : Rep K A H (.bl b) (.bl b)
  | int (i : Int) : Rep K A H (.int i) (.int i)
  | str (x : Str) : Rep K A H (.str x) (.str x)
  | lst {a : Addr} {vs : List V} {ds : List D} : H a = some (.lst vs) → RepL K A H vs ds → Rep K A H (.ref a) (.lst ds)
  | tup {a : Addr} {vs : List V} {ds : List D} : H a = some (.tup vs) → RepL K A H vs ds → Rep K A H (.ref a) (.tup ds)
  | obj {a dx : Addr} {c : Cl} {vs : List V} {ds : List D} : A.has c = true → H a = some (.ins (A.cl c) dx (c.names.zip vs)) → vs.length = c.names.length → RepL K A H vs ds → Rep K A H (.ref a) (.obj c ds)
  | scr {a : Addr} {ns : List Int} : SqL K H a (ns.map V.int) → Rep K A H (.ref a) (.scr ns)
  | ord {a : Addr} {ks : List (Str × Int)} : H a = some (.dK (ordK ks)) → Rep K A H (.ref a) (.ord ks)
inductive RepL (K : PySem.W.Frag) (A : Ad) (H : Hp) : List V → List D → Prop
  | nil : RepL K A H [] []
  | cons {v : V} {vs : List V} {d : D} {ds : List D} : Rep K A H v d → RepL K A H vs ds → RepL K A H (v :: vs) (d :: ds)
end

/-- all that stood stands -/
def Ex (H H' : Hp) : Prop := ∀ a o, H a = some o → H' a = some o
theorem Ex.refl (H : Hp) : Ex H H := fun _ _ h => h
theorem Ex.trans {H H1 H2 : Hp} (a : Ex H H1) (b : Ex H1 H2) : Ex H H2 := fun x o h => b x o (a x o h)
theorem Ex.new {H : Hp} {p : Addr} {o : HO} (h : H p = none) : Ex H (upd H p o) := fun a u e => by
  rw [upd_ne (ne_of_none e h)]
  exact e
theorem Ex.free {H H' : Hp} (e : Ex H H') {p : Addr} (h : H' p = none) : H p = none := by
  cases h1 : H p with
  | none => rfl
  | some o =>
    rw [e p o h1] at h
    cases h
/-- beside what H knows, p may change -/
theorem Ex.mut {H H' : Hp} {p : Addr} {o : HO} (e : Ex H H') (h : H p = none) : Ex H (upd H' p o) := fun a u ha => by
  rw [upd_ne (ne_of_none ha h)]
  exact e a u ha
theorem Ex.rd {H H' : Hp} {a : Addr} {u : HO} (e : Ex H H') (h : Rd H a u) : Rd H' a u := by
  rcases h with h | ⟨o, h⟩
  · exact Or.inl (e a _ h)
  · exact Or.inr ⟨o, e a _ h⟩
theorem Ex.sqL {K : PySem.W.Frag} {H H' : Hp} {a : Addr} {xs : List V} (e : Ex H H') (h : SqL K H a xs) : SqL K H' a xs := by
  rcases h with h | h
  · exact Or.inl (e.rd h)
  · exact Or.inr h
theorem Ex.sqT {K : PySem.W.Frag} {H H' : Hp} {a : Addr} {xs : List V} (e : Ex H H') (h : SqT K H a xs) : SqT K H' a xs := by
  rcases h with h | h
  · exact Or.inl (e.rd h)
  · exact Or.inr h
section
variable {K : PySem.W.Frag} {A : Ad} {H H' : Hp}
mutual
theorem Rep.mono (e : Ex H H') : ∀ {v : V} {d : D}, Rep K A H v d → Rep K A H' v d
  | _, _, .non => .non
  | _, _, .bl b => .bl b
  | _, _, .int i => .int i
  | _, _, .str x => .str x
  | _, _, .lst h r => .lst (e _ _ h) (RepL.mono e r)
  | _, _, .tup h r => .tup (e _ _ h) (RepL.mono e r)
  | _, _, .obj g h l r => .obj g (e _ _ h) l (RepL.mono e r)
  | _, _, .scr h => .scr (e.sqL h)
  | _, _, .ord h => .ord (e _ _ h)
theorem RepL.mono (e : Ex H H') : ∀ {vs : List V} {ds : List D}, RepL K A H vs ds → RepL K A H' vs ds
  | _, _, .nil => .nil
  | _, _, .cons h r => .cons (Rep.mono e h) (RepL.mono e r)
end
theorem RepL.length : ∀ {vs : List V} {ds : List D}, RepL K A H vs ds → vs.length = ds.length
  | _, _, .nil => rfl
  | _, _, .cons _ r => by rw [List.length_cons, List.length_cons, RepL.length r]
theorem RepL.app : ∀ {vs ws : List V} {ds es : List D}, RepL K A H vs ds → RepL K A H ws es → RepL K A H (vs ++ ws) (ds ++ es)
  | _, _, _, _, .nil, h => h
  | _, _, _, _, .cons h r, h2 => .cons h (RepL.app r h2)
theorem RepL.one {v : V} {d : D} (h : Rep K A H v d) : RepL K A H [v] [d] := .cons h .nil
theorem RepL.get : ∀ {vs : List V} {ds : List D} {i : Nat} {d : D}, RepL K A H vs ds → ds[i]? = some d → ∃ v, vs[i]? = some v ∧ Rep K A H v d
  | _, _, _, _, .nil, e => by simp at e
  | _, _, 0, _, .cons h _, e => by simp at e; subst e; exact ⟨_, rfl, h⟩
  | _, _, i + 1, d, .cons _ r, e => by
    obtain ⟨v, h1, h2⟩ := RepL.get (i := i) (d := d) r (by simpa using e)
    exact ⟨v, by simpa using h1, h2⟩
theorem RepL.at : ∀ {vs : List V} {ds : List D} {i : Nat} {v : V}, RepL K A H vs ds → vs[i]? = some v → ∃ d, ds[i]? = some d ∧ Rep K A H v d
  | _, _, _, _, .nil, e => by simp at e
  | _, _, 0, _, .cons h _, e => by simp at e; subst e; exact ⟨_, rfl, h⟩
  | _, _, i + 1, v, .cons _ r, e => by
    obtain ⟨d, h1, h2⟩ := RepL.at (i := i) (v := v) r (by simpa using e)
    exact ⟨d, by simpa using h1, h2⟩
theorem RepL.take : ∀ {vs : List V} {ds : List D} (n : Nat), RepL K A H vs ds → RepL K A H (vs.take n) (ds.take n)
  | _, _, 0, _ => .nil
  | _, _, _ + 1, .nil => .nil
  | _, _, n + 1, .cons h r => .cons h (RepL.take n r)
theorem RepL.drop : ∀ {vs : List V} {ds : List D} (n : Nat), RepL K A H vs ds → RepL K A H (vs.drop n) (ds.drop n)
  | _, _, 0, h => h
  | _, _, _ + 1, .nil => .nil
  | _, _, n + 1, .cons _ r => RepL.drop n r
theorem RepL.rev {vs : List V} {ds : List D} (h : RepL K A H vs ds) : RepL K A H vs.reverse ds.reverse := by
  induction ds generalizing vs with
  | nil => cases h; exact .nil
  | cons d ds ih =>
    cases h with
    | cons h r =>
      rw [List.reverse_cons, List.reverse_cons]
      exact (ih r).app (.one h)
theorem RepL.set : ∀ {vs : List V} {ds : List D} {v : V} {d : D} (i : Nat), RepL K A H vs ds → Rep K A H v d → RepL K A H (vs.set i v) (ds.set i d)
  | _, _, _, _, _, .nil, _ => .nil
  | _, _, _, _, 0, .cons _ r, q => .cons q r
  | _, _, _, _, i + 1, .cons h r, q => .cons h (RepL.set i r q)
theorem RepL.ints (ns : List Int) : RepL K A H (ns.map V.int) (ns.map D.int) := by
  induction ns with
  | nil => exact .nil
  | cons n ns ih => exact .cons (.int n) ih
/-- what a list of ints, of texts, of bools holds -/
theorem RepL.ofInts : ∀ {ns : List Int} {vs : List V}, RepL K A H vs (ns.map D.int) → vs = ns.map V.int
  | [], _, .nil => rfl
  | n :: ns, _, .cons (.int _) r => by rw [List.map_cons, RepL.ofInts r]
theorem RepL.ofStrs : ∀ {xs : List Str} {vs : List V}, RepL K A H vs (xs.map D.str) → vs = xs.map V.str
  | [], _, .nil => rfl
  | n :: ns, _, .cons (.str _) r => by rw [List.map_cons, RepL.ofStrs r]
theorem RepL.ofBls : ∀ {xs : List Bool} {vs : List V}, RepL K A H vs (xs.map D.bl) → vs = xs.map V.bl
  | [], _, .nil => rfl
  | n :: ns, _, .cons (.bl _) r => by rw [List.map_cons, RepL.ofBls r]
theorem RepL.flatten : ∀ {vss : List (List V)} {dss : List (List D)}, vss.length = dss.length → (∀ (i : Nat) vs ds, vss[i]? = some vs → dss[i]? = some ds → RepL K A H vs ds) → RepL K A H vss.flatten dss.flatten
  | [], [], _, _ => .nil
  | vs :: vss, ds :: dss, hl, h => by
    rw [List.flatten_cons, List.flatten_cons]
    exact (h 0 vs ds rfl rfl).app (RepL.flatten (by simpa using hl) fun i a b ha hb => h (i + 1) a b (by simpa using ha) (by simpa using hb))
end

/-! ### the frozen part and the heap -/
structure Grow (F H F' H' : Hp) : Prop where
  f : Ex F F'
  h : Ex H H'
  i : Ex F' H'
  n : ∀ a o, H a = some o → F' a = F a
theorem Grow.refl {F H : Hp} (e : Ex F H) : Grow F H F H := ⟨.refl _, .refl _, e, fun _ _ _ => rfl⟩
theorem Grow.trans {F H F1 H1 F2 H2 : Hp} (a : Grow F H F1 H1) (b : Grow F1 H1 F2 H2) : Grow F H F2 H2 :=
  ⟨a.f.trans b.f, a.h.trans b.h, b.i, fun c o e => (b.n c o (a.h c o e)).trans (a.n c o e)⟩
/-- a new object, frozen at once -/
theorem Grow.new {F H : Hp} {p : Addr} {o : HO} (e : Ex F H) (hp : H p = none) : Grow F H (upd F p o) (upd H p o) where
  f := .new (e.free hp)
  h := .new hp
  i := fun a u ha => by
    by_cases q : a = p
    · subst q; rw [upd_same] at ha ⊢; exact ha
    · rw [upd_ne q] at ha ⊢; exact e a u ha
  n := fun a u ha => upd_ne (ne_of_none ha hp)
/-- a new object, not frozen -/
theorem Grow.raw {F H : Hp} {p : Addr} {o : HO} (e : Ex F H) (hp : H p = none) : Grow F H F (upd H p o) where
  f := .refl _
  h := .new hp
  i := e.trans (.new hp)
  n := fun _ _ _ => rfl

/-- a slot's data: none, frozen, a list of its own -/
inductive Ent where
  | un | fz (d : D) | ow (ds : List D) | tk (n : Nat)
abbrev Ro := List Ent

/-- what holds of a def's frame: B, F0: the heap and its frozen part at the entry; F: the frozen part now -/
structure SR (K : PySem.W.Frag) (A : Ad) (T : Nat → V) (B F0 F H : Hp) (σ : L2.St) (ρ : Ro) : Prop where
  fh : Ex F H
  bh : Ex B H
  f0 : Ex F0 F
  nw : ∀ a o, B a = some o → F a = F0 a
  len : σ.length = ρ.length
  fz : ∀ (i : Nat) d, ρ[i]? = some (.fz d) → ∃ v, σ[i]? = some (some v) ∧ Rep K A F v d
  ow : ∀ (i : Nat) ds, ρ[i]? = some (.ow ds) → ∃ l vs, σ[i]? = some (some (.ref l)) ∧ F l = none ∧ B l = none ∧ H l = some (.lst vs) ∧ RepL K A F vs ds
  sep : ∀ (i j : Nat) ds es, i ≠ j → ρ[i]? = some (.ow ds) → ρ[j]? = some (.ow es) → σ[i]? ≠ σ[j]?
  tk : ∀ (i : Nat) n, ρ[i]? = some (.tk n) → σ[i]? = some (some (T n))
section
variable {K : PySem.W.Frag} {A : Ad} {T : Nat → V} {B F0 F H F' H' : Hp} {σ : L2.St} {ρ : Ro}
theorem SR.grow (S : SR K A T B F0 F H σ ρ) (G : Grow F H F' H') : SR K A T B F0 F' H' σ ρ where
  fh := G.i
  bh := S.bh.trans G.h
  f0 := S.f0.trans G.f
  nw := fun a o e => (G.n a o (S.bh a o e)).trans (S.nw a o e)
  len := S.len
  fz := fun i d e => by
    obtain ⟨v, h1, h2⟩ := S.fz i d e
    exact ⟨v, h1, h2.mono G.f⟩
  ow := fun i ds e => by
    obtain ⟨l, vs, h1, h2, h3, h4, h5⟩ := S.ow i ds e
    exact ⟨l, vs, h1, (G.n l _ h4).trans h2, h3, G.h l _ h4, h5.mono G.f⟩
  sep := S.sep
  tk := S.tk
theorem set_get {α : Type} {l : List α} {i j : Nat} {x y : α} (h : (l.set i x)[j]? = some y) : (j = i ∧ y = x) ∨ (j ≠ i ∧ l[j]? = some y) := by
  by_cases e : i = j
  · subst e
    by_cases hl : i < l.length
    · rw [List.getElem?_set_self hl] at h
      exact .inl ⟨rfl, (Option.some.inj h).symm⟩
    · rw [List.getElem?_eq_none (by simpa using hl)] at h
      cases h
  · rw [List.getElem?_set_ne e] at h
    exact .inr ⟨fun q => e q.symm, h⟩
/-- a slot stored: frozen data -/
theorem SR.setF (S : SR K A T B F0 F H σ ρ) {i : Nat} {v : V} {d : D} (r : Rep K A F v d) : SR K A T B F0 F H (σ.set i (some v)) (ρ.set i (.fz d)) where
  fh := S.fh
  bh := S.bh
  f0 := S.f0
  nw := S.nw
  len := by rw [List.length_set, List.length_set, S.len]
  fz := fun j e h => by
    rcases set_get h with ⟨rfl, q⟩ | ⟨q, h'⟩
    · cases q
      have hl : j < σ.length := by
        have := (List.getElem?_eq_some_iff.mp h).1
        rw [List.length_set] at this
        rw [S.len]; exact this
      exact ⟨v, List.getElem?_set_self hl, r⟩
    · obtain ⟨w, h1, h2⟩ := S.fz j e h'
      exact ⟨w, by rw [List.getElem?_set_ne (Ne.symm q)]; exact h1, h2⟩
  ow := fun j es h => by
    rcases set_get h with ⟨rfl, q⟩ | ⟨q, h'⟩
    · cases q
    · obtain ⟨l, vs, h1, h2⟩ := S.ow j es h'
      exact ⟨l, vs, by rw [List.getElem?_set_ne (Ne.symm q)]; exact h1, h2⟩
  sep := fun j k ds es hne hj hk => by
    rcases set_get hj with ⟨rfl, q⟩ | ⟨q, hj'⟩
    · cases q
    · rcases set_get hk with ⟨rfl, q2⟩ | ⟨q2, hk'⟩
      · cases q2
      · rw [List.getElem?_set_ne (Ne.symm q), List.getElem?_set_ne (Ne.symm q2)]
        exact S.sep j k ds es hne hj' hk'
  tk := fun j n h => by
    rcases set_get h with ⟨rfl, q⟩ | ⟨q, h'⟩
    · cases q
    · rw [List.getElem?_set_ne (Ne.symm q)]
      exact S.tk j n h'
/-- a slot stored: a list of one's own, at an address that no other slot's list has -/
theorem SR.setO (S : SR K A T B F0 F H σ ρ) {i : Nat} {l : Addr} {vs : List V} {ds : List D} (h1 : F l = none) (h2 : B l = none) (h3 : H l = some (.lst vs)) (r : RepL K A F vs ds)
    (hn : ∀ (j : Nat) es, j ≠ i → ρ[j]? = some (.ow es) → σ[j]? ≠ some (some (.ref l))) : SR K A T B F0 F H (σ.set i (some (.ref l))) (ρ.set i (.ow ds)) where
  fh := S.fh
  bh := S.bh
  f0 := S.f0
  nw := S.nw
  len := by rw [List.length_set, List.length_set, S.len]
  fz := fun j e h => by
    rcases set_get h with ⟨rfl, q⟩ | ⟨q, h'⟩
    · cases q
    · obtain ⟨w, h1, h2⟩ := S.fz j e h'
      exact ⟨w, by rw [List.getElem?_set_ne (Ne.symm q)]; exact h1, h2⟩
  ow := fun j es h => by
    rcases set_get h with ⟨rfl, q⟩ | ⟨q, h'⟩
    · cases q
      have hl : j < σ.length := by
        have := (List.getElem?_eq_some_iff.mp h).1
        rw [List.length_set] at this
        rw [S.len]; exact this
      exact ⟨l, vs, List.getElem?_set_self hl, h1, h2, h3, r⟩
    · obtain ⟨l', vs', q1, q2⟩ := S.ow j es h'
      exact ⟨l', vs', by rw [List.getElem?_set_ne (Ne.symm q)]; exact q1, q2⟩
  sep := fun j k es fs hne hj hk => by
    have hsz : ∀ m, (ρ.set i (.ow ds))[m]? = some (.ow ds) → m = i → m < σ.length := fun m hm _ => by
      have := (List.getElem?_eq_some_iff.mp hm).1
      rw [List.length_set] at this
      rw [S.len]; exact this
    rcases set_get hj with ⟨rfl, q⟩ | ⟨q, hj'⟩
    · rcases set_get hk with ⟨rfl, q2⟩ | ⟨q2, hk'⟩
      · exact absurd rfl hne
      · cases q
        rw [List.getElem?_set_self (hsz _ hj rfl), List.getElem?_set_ne (Ne.symm q2)]
        exact fun z => hn k fs q2 hk' z.symm
    · rcases set_get hk with ⟨rfl, q2⟩ | ⟨q2, hk'⟩
      · cases q2
        rw [List.getElem?_set_ne (Ne.symm q), List.getElem?_set_self (hsz _ hk rfl)]
        exact hn j es q hj'
      · rw [List.getElem?_set_ne (Ne.symm q), List.getElem?_set_ne (Ne.symm q2)]
        exact S.sep j k es fs hne hj' hk'
  tk := fun j n h => by
    rcases set_get h with ⟨rfl, q⟩ | ⟨q, h'⟩
    · cases q
    · rw [List.getElem?_set_ne (Ne.symm q)]
      exact S.tk j n h'
/-- a slot forgotten -/
theorem SR.drop (S : SR K A T B F0 F H σ ρ) {i : Nat} : SR K A T B F0 F H σ (ρ.set i .un) where
  fh := S.fh
  bh := S.bh
  f0 := S.f0
  nw := S.nw
  len := by rw [List.length_set, S.len]
  fz := fun j e h => by
    rcases set_get h with ⟨rfl, q⟩ | ⟨q, h'⟩
    · cases q
    · exact S.fz j e h'
  ow := fun j es h => by
    rcases set_get h with ⟨rfl, q⟩ | ⟨q, h'⟩
    · cases q
    · exact S.ow j es h'
  sep := fun j k ds es hne hj hk => by
    rcases set_get hj with ⟨rfl, q⟩ | ⟨q, hj'⟩
    · cases q
    · rcases set_get hk with ⟨rfl, q2⟩ | ⟨q2, hk'⟩
      · cases q2
      · exact S.sep j k ds es hne hj' hk'
  tk := fun j n h => by
    rcases set_get h with ⟨rfl, q⟩ | ⟨q, h'⟩
    · cases q
    · exact S.tk j n h'
/-- .. its value, too -/
theorem SR.dropV (S : SR K A T B F0 F H σ ρ) {i : Nat} : SR K A T B F0 F H (σ.set i none) (ρ.set i .un) where
  fh := S.fh
  bh := S.bh
  f0 := S.f0
  nw := S.nw
  len := by rw [List.length_set, List.length_set, S.len]
  fz := fun j e h => by
    rcases set_get h with ⟨rfl, q⟩ | ⟨q, h'⟩
    · cases q
    · rw [List.getElem?_set_ne (Ne.symm q)]
      exact S.fz j e h'
  ow := fun j es h => by
    rcases set_get h with ⟨rfl, q⟩ | ⟨q, h'⟩
    · cases q
    · rw [List.getElem?_set_ne (Ne.symm q)]
      exact S.ow j es h'
  sep := fun j k ds es hne hj hk => by
    rcases set_get hj with ⟨rfl, q⟩ | ⟨q, hj'⟩
    · cases q
    · rcases set_get hk with ⟨rfl, q2⟩ | ⟨q2, hk'⟩
      · cases q2
      · rw [List.getElem?_set_ne (Ne.symm q), List.getElem?_set_ne (Ne.symm q2)]
        exact S.sep j k ds es hne hj' hk'
  tk := fun j n h => by
    rcases set_get h with ⟨rfl, q⟩ | ⟨q, h'⟩
    · cases q
    · rw [List.getElem?_set_ne (Ne.symm q)]
      exact S.tk j n h'
/-- a list of one's own is frozen -/
theorem SR.freeze (S : SR K A T B F0 F H σ ρ) {i : Nat} {ds : List D} (h : ρ[i]? = some (.ow ds)) : ∃ F', Ex F F' ∧ SR K A T B F0 F' H σ (ρ.set i (.fz (.lst ds))) := by
  obtain ⟨l, vs, h1, h2, h3, h4, h5⟩ := S.ow i ds h
  have e : Ex F (upd F l (.lst vs)) := .new h2
  refine ⟨upd F l (.lst vs), e, ?_, S.bh, S.f0.trans e, ?_, ?_, ?_, ?_, ?_, ?_⟩
  · intro a u ha
    by_cases q : a = l
    · subst q; rw [upd_same] at ha; rw [← ha]; exact h4
    · rw [upd_ne q] at ha; exact S.fh a u ha
  · intro a o ha
    rw [upd_ne (ne_of_none ha h3)]
    exact S.nw a o ha
  · rw [List.length_set, S.len]
  · intro j d hj
    rcases set_get hj with ⟨rfl, q⟩ | ⟨q, hj'⟩
    · cases q
      exact ⟨_, h1, .lst upd_same (h5.mono e)⟩
    · obtain ⟨v, q1, q2⟩ := S.fz j d hj'
      exact ⟨v, q1, q2.mono e⟩
  · intro j es hj
    rcases set_get hj with ⟨rfl, q⟩ | ⟨q, hj'⟩
    · cases q
    · obtain ⟨l', vs', q1, q2, q3, q4, q5⟩ := S.ow j es hj'
      refine ⟨l', vs', q1, ?_, q3, q4, q5.mono e⟩
      rw [upd_ne]
      · exact q2
      · intro z
        subst z
        exact S.sep j i es ds q hj' h (by rw [q1, h1])
  · intro j k es fs hne hj hk
    rcases set_get hj with ⟨rfl, q⟩ | ⟨q, hj'⟩
    · cases q
    · rcases set_get hk with ⟨rfl, q2⟩ | ⟨q2, hk'⟩
      · cases q2
      · exact S.sep j k es fs hne hj' hk'
  · intro j n h'
    rcases set_get h' with ⟨rfl, q⟩ | ⟨q, h2'⟩
    · cases q
    · exact S.tk j n h2'
/-- a list of one's own is changed -/
theorem SR.write (S : SR K A T B F0 F H σ ρ) {i : Nat} {ds es : List D} {l : Addr} {ws : List V} (h : ρ[i]? = some (.ow ds)) (hl : σ[i]? = some (some (.ref l))) (r : RepL K A F ws es) : SR K A T B F0 F (upd H l (.lst ws)) σ (ρ.set i (.ow es)) := by
  obtain ⟨l', vs, h1, h2, h3, h4, h5⟩ := S.ow i ds h
  rw [hl] at h1
  cases h1
  refine ⟨S.fh.mut h2, S.bh.mut h3, S.f0, S.nw, by rw [List.length_set, S.len], ?_, ?_, ?_, ?_⟩
  · intro j d hj
    rcases set_get hj with ⟨rfl, q⟩ | ⟨q, hj'⟩
    · cases q
    · exact S.fz j d hj'
  · intro j fs hj
    rcases set_get hj with ⟨rfl, q⟩ | ⟨q, hj'⟩
    · cases q
      exact ⟨l, ws, hl, h2, h3, upd_same, r⟩
    · obtain ⟨l', vs', q1, q2, q3, q4, q5⟩ := S.ow j fs hj'
      refine ⟨l', vs', q1, q2, q3, ?_, q5⟩
      rw [upd_ne]
      · exact q4
      · intro z
        subst z
        exact S.sep j i fs ds q hj' h (by rw [q1, hl])
  · intro j k fs gs hne hj hk
    have back : ∀ (m : Nat) xs, (ρ.set i (.ow es))[m]? = some (.ow xs) → ∃ ys, ρ[m]? = some (.ow ys) := fun m xs hm => by
      rcases set_get hm with ⟨rfl, q⟩ | ⟨q, hm'⟩
      · exact ⟨ds, h⟩
      · exact ⟨xs, hm'⟩
    obtain ⟨y1, e1⟩ := back j fs hj
    obtain ⟨y2, e2⟩ := back k gs hk
    exact S.sep j k y1 y2 hne e1 e2
  · intro j n h'
    rcases set_get h' with ⟨rfl, q⟩ | ⟨q, h2'⟩
    · cases q
    · exact S.tk j n h2'
end

/-! ### kinds of results -/
inductive Kd where
  | bw | fz | ow
  deriving DecidableEq
section
variable (K : PySem.W.Frag) (A : Ad)
def RK : Kd → Hp → Hp → Hp → V → D → Prop
  | .fz, F', _, _, v, d => Rep K A F' v d
  | .bw, F', _, H', v, d => Rep K A F' v d ∨ ∃ l vs ds, v = .ref l ∧ d = .lst ds ∧ H' l = some (.lst vs) ∧ RepL K A F' vs ds
  | .ow, F', H, H', v, d => ∃ l vs ds, v = .ref l ∧ d = .lst ds ∧ H l = none ∧ F' l = none ∧ H' l = some (.lst vs) ∧ RepL K A F' vs ds
end
section
variable {K : PySem.W.Frag} {A : Ad} {F H F' H' H0 : Hp} {v : V} {d : D} {k : Kd}
theorem RK.grow (G : Grow F H F' H') (h : RK K A k F H0 H v d) : RK K A k F' H0 H' v d := by
  cases k with
  | fz => exact Rep.mono G.f h
  | bw =>
    rcases h with h | ⟨l, vs, ds, e1, e2, e3, e4⟩
    · exact .inl (h.mono G.f)
    · exact .inr ⟨l, vs, ds, e1, e2, G.h _ _ e3, e4.mono G.f⟩
  | ow =>
    obtain ⟨l, vs, ds, e1, e2, e0, e5, e3, e4⟩ := h
    exact ⟨l, vs, ds, e1, e2, e0, (G.n _ _ e3).trans e5, G.h _ _ e3, e4.mono G.f⟩
theorem RK.bw_of (h : RK K A k F H0 H v d) : RK K A .bw F H0 H v d := by
  cases k with
  | fz => exact .inl h
  | bw => exact h
  | ow =>
    obtain ⟨l, vs, ds, e1, e2, e0, e5, e3, e4⟩ := h
    exact .inr ⟨l, vs, ds, e1, e2, e3, e4⟩
/-- what is read of a list -/
theorem RK.lst {ds : List D} (e : Ex F H) (h : RK K A .bw F H0 H v (.lst ds)) : ∃ a vs, v = .ref a ∧ H a = some (.lst vs) ∧ RepL K A F vs ds := by
  rcases h with h | ⟨l, vs, ds', e1, e2, e3, e4⟩
  · cases h with
    | lst h r => exact ⟨_, _, rfl, e _ _ h, r⟩
  · cases e2
    exact ⟨l, vs, e1, e3, e4⟩
/-- what is no list is frozen -/
theorem RK.rep (h : RK K A .bw F H0 H v d) (hd : ∀ ds, d ≠ .lst ds) : Rep K A F v d := by
  rcases h with h | ⟨l, vs, ds', e1, e2, e3, e4⟩
  · exact h
  · exact absurd e2 (hd _)
/-- in the whole heap -/
theorem RK.all (e : Ex F H) (h : RK K A .bw F H0 H v d) : Rep K A H v d := by
  rcases h with h | ⟨l, vs, ds', e1, e2, e3, e4⟩
  · exact h.mono e
  · subst e1 e2
    exact .lst e3 (e4.mono e)
end

/-! ### expressions -/
abbrev EM (α : Type) := Option (Except Xn α)
def ok {α : Type} (a : α) : EM α := some (.ok a)
def bnd {α β : Type} (m : EM α) (f : α → EM β) : EM β := match m with
  | none => none
  | some (.error x) => some (.error x)
  | some (.ok a) => f a
/-- what a def's frame carries through: the classes' places, the heap and its frozen part at the entry, what is wished of a refusal -/
structure Fx where
  A : Ad
  T : Nat → V
  B : Hp
  F0 : Hp
  W : WX
/-- a refusal's own dict -/
def XR (H : Hp) : Xn → Option Addr → Prop
  | .badRow n, dd => ∃ d, dd = some d ∧ H d = some (.xd [(("row" : Str), .int n)])
  | .badDay n, dd => ∃ d, dd = some d ∧ H d = some (.xd [(("day" : Str), .int n)])
  | _, dd => dd = none
def Wx (K : PySem.W.Frag) (x : Fx) (F H : Hp) (σ : L2.St) (e : Xn) : Prop := ∀ F' H' dd, Grow F H F' H' → XR H' e dd → x.W (.ref (x.A.xc e.cl)) dd σ H'
theorem Wx.grow {K : PySem.W.Frag} {x : Fx} {F H F' H' : Hp} {σ : L2.St} {e : Xn} (G : Grow F H F' H') (h : Wx K x F H σ e) : Wx K x F' H' σ e := fun F2 H2 dd G2 r => h F2 H2 dd (G.trans G2) r
/-- the wish behind an expression -/
def Wd (K : PySem.W.Frag) (x : Fx) (k : Kd) (r : Except Xn D) (F H : Hp) (σ : L2.St) (Q : VK) : Prop := match r with
  | .ok d => ∀ F' H' v, Grow F H F' H' → RK K x.A k F' H H' v d → Q v H'
  | .error e => Wx K x F H σ e
theorem RK.old {K : PySem.W.Frag} {A : Ad} {k : Kd} {F H0 H1 H : Hp} {v : V} {d : D} (e : Ex H0 H1) (h : RK K A k F H1 H v d) : RK K A k F H0 H v d := by
  cases k with
  | fz => exact h
  | bw => exact h
  | ow =>
    obtain ⟨l, vs, ds, e1, e2, e0, e5, e3, e4⟩ := h
    exact ⟨l, vs, ds, e1, e2, e.free e0, e5, e3, e4⟩
theorem Wd.grow {K : PySem.W.Frag} {x : Fx} {k : Kd} {r : Except Xn D} {F H F' H' : Hp} {σ : L2.St} {Q : VK} (G : Grow F H F' H') (h : Wd K x k r F H σ Q) : Wd K x k r F' H' σ Q := by
  cases r with
  | ok d => exact fun F2 H2 v G2 r => h F2 H2 v (G.trans G2) (r.old G.h)
  | error e => exact Wx.grow (K := K) G h
def tK (K : PySem.W.Frag) (x : Fx) (k : Kd) (f : Ro → EM D) : TE := fun σ H Q => ∃ F ρ r, SR K x.A x.T x.B x.F0 F H σ ρ ∧ f ρ = some r ∧ Wd K x k r F H σ Q
section
variable {K : PySem.W.Frag} {x : Fx} {k : Kd} {f : Ro → EM D} {F H : Hp} {σ : L2.St} {ρ : Ro}
/-- one part of an expression, then the rest -/
theorem tk_step {β : Type} {g : D → EM β} {r : Except Xn β} {Q : VK} (S : SR K x.A x.T x.B x.F0 F H σ ρ) (e : bnd (f ρ) g = some r) (hx : ∀ y, r = .error y → Wx K x F H σ y)
    (hk : ∀ d F' H' v, Grow F H F' H' → SR K x.A x.T x.B x.F0 F' H' σ ρ → RK K x.A k F' H H' v d → g d = some r → Q v H') : tK K x k f σ H Q := by
  cases ef : f ρ with
  | none => rw [ef] at e; cases e
  | some q =>
    rw [ef] at e
    cases q with
    | error y =>
      have e' : (Except.error y : Except Xn β) = r := Option.some.inj e
      exact ⟨F, ρ, .error y, S, ef, hx y e'.symm⟩
    | ok d => exact ⟨F, ρ, .ok d, S, ef, fun F' H' v G r' => hk d F' H' v G (S.grow G) r' e⟩
end
def Wd.x {K : PySem.W.Frag} {x : Fx} {k : Kd} {r : Except Xn D} {F H : Hp} {σ : L2.St} {Q : VK} (h : Wd K x k r F H σ Q) : ∀ y, r = .error y → Wx K x F H σ y := fun y e => by
  subst e; exact h

/-- arguments -/
inductive RKL (K : PySem.W.Frag) (A : Ad) (k : Kd) (F' H H' : Hp) : List V → List D → Prop
  | nil : RKL K A k F' H H' [] []
  | cons {v : V} {vs : List V} {d : D} {ds : List D} : RK K A k F' H H' v d → RKL K A k F' H H' vs ds → RKL K A k F' H H' (v :: vs) (d :: ds)
theorem RKL.grow {K : PySem.W.Frag} {A : Ad} {F H F' H' H0 : Hp} {k : Kd} (G : Grow F H F' H') : ∀ {vs : List V} {ds : List D}, RKL K A k F H0 H vs ds → RKL K A k F' H0 H' vs ds
  | _, _, .nil => .nil
  | _, _, .cons h r => .cons (h.grow G) (RKL.grow G r)
theorem RKL.old {K : PySem.W.Frag} {A : Ad} {k : Kd} {F H0 H1 H : Hp} (e : Ex H0 H1) : ∀ {vs : List V} {ds : List D}, RKL K A k F H1 H vs ds → RKL K A k F H0 H vs ds
  | _, _, .nil => .nil
  | _, _, .cons h r => .cons (h.old e) (RKL.old e r)
theorem RKL.repL {K : PySem.W.Frag} {A : Ad} {F H0 H : Hp} : ∀ {vs : List V} {ds : List D}, RKL K A .fz F H0 H vs ds → RepL K A F vs ds
  | _, _, .nil => .nil
  | _, _, .cons h r => .cons h (RKL.repL r)
def WdA (K : PySem.W.Frag) (x : Fx) (k : Kd) (r : Except Xn (List D)) (F H : Hp) (σ : L2.St) (Q : List V → Hp → Prop) : Prop := match r with
  | .ok ds => ∀ F' H' vs, Grow F H F' H' → RKL K x.A k F' H H' vs ds → Q vs H'
  | .error e => Wx K x F H σ e
def tA (K : PySem.W.Frag) (x : Fx) (k : Kd) (f : Ro → EM (List D)) : TA := fun σ H Q => ∃ F ρ r, SR K x.A x.T x.B x.F0 F H σ ρ ∧ f ρ = some r ∧ WdA K x k r F H σ Q
theorem ta_step {K : PySem.W.Frag} {x : Fx} {k : Kd} {f : Ro → EM (List D)} {F H : Hp} {σ : L2.St} {ρ : Ro} {β : Type} {g : List D → EM β} {r : Except Xn β} {Q : List V → Hp → Prop} (S : SR K x.A x.T x.B x.F0 F H σ ρ) (e : bnd (f ρ) g = some r) (hx : ∀ y, r = .error y → Wx K x F H σ y)
    (hk : ∀ ds F' H' vs, Grow F H F' H' → SR K x.A x.T x.B x.F0 F' H' σ ρ → RKL K x.A k F' H H' vs ds → g ds = some r → Q vs H') : tA K x k f σ H Q := by
  cases ef : f ρ with
  | none => rw [ef] at e; cases e
  | some q =>
    rw [ef] at e
    cases q with
    | error y =>
      have e' : (Except.error y : Except Xn β) = r := Option.some.inj e
      exact ⟨F, ρ, .error y, S, ef, hx y e'.symm⟩
    | ok d => exact ⟨F, ρ, .ok d, S, ef, fun F' H' v G r' => hk d F' H' v G (S.grow G) r' e⟩

/-- tests -/
def WdT (K : PySem.W.Frag) (x : Fx) (r : Except Xn Bool) (F H : Hp) (σ : L2.St) (Q : Bool → Hp → Prop) : Prop := match r with
  | .ok b => ∀ F' H', Grow F H F' H' → Q b H'
  | .error e => Wx K x F H σ e
def tT (K : PySem.W.Frag) (x : Fx) (f : Ro → EM Bool) : TT := fun σ H Q => ∃ F ρ r, SR K x.A x.T x.B x.F0 F H σ ρ ∧ f ρ = some r ∧ WdT K x r F H σ Q
theorem tt_step {K : PySem.W.Frag} {x : Fx} {f : Ro → EM Bool} {F H : Hp} {σ : L2.St} {ρ : Ro} {β : Type} {g : Bool → EM β} {r : Except Xn β} {Q : Bool → Hp → Prop} (S : SR K x.A x.T x.B x.F0 F H σ ρ) (e : bnd (f ρ) g = some r) (hx : ∀ y, r = .error y → Wx K x F H σ y)
    (hk : ∀ b F' H', Grow F H F' H' → SR K x.A x.T x.B x.F0 F' H' σ ρ → g b = some r → Q b H') : tT K x f σ H Q := by
  cases ef : f ρ with
  | none => rw [ef] at e; cases e
  | some q =>
    rw [ef] at e
    cases q with
    | error y =>
      have e' : (Except.error y : Except Xn β) = r := Option.some.inj e
      exact ⟨F, ρ, .error y, S, ef, hx y e'.symm⟩
    | ok d => exact ⟨F, ρ, .ok d, S, ef, fun F' H' G => hk d F' H' G (S.grow G) e⟩

/-! ### statements -/
inductive Fl where
  | nx (ρ : Ro) | rt (d : D) | rto (ds : List D) | bk (ρ : Ro) | ct (ρ : Ro) | ex (e : Xn) (ρ : Ro)
/-- a way on, from F on -/
def Nxt (K : PySem.W.Frag) (x : Fx) (F : Hp) (ρ : Ro) (R : L2.St → Hp → Prop) : Prop := ∀ F' H' σ', Ex F F' → SR K x.A x.T x.B x.F0 F' H' σ' ρ → R σ' H'
def WdS (K : PySem.W.Frag) (x : Fx) (fl : Fl) (F : Hp) (E : Ends) : Prop := match fl with
  | .nx ρ => Nxt K x F ρ E.nx
  | .bk ρ => Nxt K x F ρ E.bk
  | .ct ρ => Nxt K x F ρ E.ct
  | .rt d => ∀ F' H' v, Grow x.F0 x.B F' H' → Rep K x.A F' v d → E.rt v H'
  | .rto ds => ∀ F' H' l vs, Grow x.F0 x.B F' H' → x.B l = none → F' l = none → H' l = some (.lst vs) → RepL K x.A F' vs ds → E.rt (.ref l) H'
  | .ex e ρ => Nxt K x F ρ fun σ' H' => ∀ dd, XR H' e dd → x.W (.ref (x.A.xc e.cl)) dd σ' H'
theorem Nxt.mono {K : PySem.W.Frag} {x : Fx} {F F' : Hp} {ρ : Ro} {R : L2.St → Hp → Prop} (e : Ex F F') (h : Nxt K x F ρ R) : Nxt K x F' ρ R := fun F2 H2 σ2 e2 S => h F2 H2 σ2 (e.trans e2) S
theorem WdS.mono {K : PySem.W.Frag} {x : Fx} {fl : Fl} {F F' : Hp} {E : Ends} (e : Ex F F') (h : WdS K x fl F E) : WdS K x fl F' E := by
  cases fl with
  | nx ρ => exact Nxt.mono e h
  | bk ρ => exact Nxt.mono e h
  | ct ρ => exact Nxt.mono e h
  | rt d => exact h
  | rto ds => exact h
  | ex y ρ => exact Nxt.mono e h
def tS (K : PySem.W.Frag) (x : Fx) (g : Ro → Option Fl) : TS := fun E σ H => ∃ F ρ fl, SR K x.A x.T x.B x.F0 F H σ ρ ∧ g ρ = some fl ∧ WdS K x fl F E
/-- a refusal of an expression is one of the statement -/
theorem WdS.wx {K : PySem.W.Frag} {x : Fx} {F H : Hp} {σ : L2.St} {ρ : Ro} {e : Xn} {E : Ends} (S : SR K x.A x.T x.B x.F0 F H σ ρ) (h : WdS K x (.ex e ρ) F E) : Wx K x F H σ e := fun F' H' dd G r => h F' H' σ G.f (S.grow G) dd r

section
variable {X : Cx}
theorem pe_wk {e : Expr} {t t' : TE} (h : PE X e t) (w : ∀ σ H Q, t' σ H Q → t σ H Q) : PE X e t' := ⟨fun pins s σ H Q I q => h.run pins s σ H Q I (w σ H Q q)⟩
theorem pt_wk {e : Expr} {t t' : TT} (h : PT X e t) (w : ∀ σ H Q, t' σ H Q → t σ H Q) : PT X e t' := ⟨fun pins s σ H Q I q => h.run pins s σ H Q I (w σ H Q q)⟩
theorem pw_wk {e : Expr} {t t' : TT} (h : PW X e t) (w : ∀ σ H Q, t' σ H Q → t σ H Q) : PW X e t' := ⟨fun wh pins s σ H Q I q => h.run wh pins s σ H Q I (w σ H Q q)⟩
theorem pa_wk {es : List Expr} {t t' : TA} (h : PA X es t) (w : ∀ σ H Q, t' σ H Q → t σ H Q) : PA X es t' := ⟨fun p pins s σ H Q I q => h.run p pins s σ H Q I (w σ H Q q)⟩
theorem ps_wk {st : Stmt} {t t' : TS} (h : PS X st t) (w : ∀ E σ H, t' E σ H → t E σ H) : PS X st t' := ⟨fun pins s σ H E I q => h.run pins s σ H E I (w E σ H q)⟩
theorem pss_wk {st : List Stmt} {t t' : TS} (h : PSs X st t) (w : ∀ E σ H, t' E σ H → t E σ H) : PSs X st t' := ⟨fun pins s σ H E I q => h.run pins s σ H E I (w E σ H q)⟩

variable {x : Fx} {f g : Ro → EM D} {k : Kd} {a b : Expr} {pos : Pos}
/-! ### kinds -/
theorem pk_bw (h : PE X a (tK X.K x k f)) : PE X a (tK X.K x .bw f) := pe_wk h fun σ H Q ⟨F, ρ, r, S, e, w⟩ => ⟨F, ρ, r, S, e, by
  cases r with
  | ok d => exact fun F' H' v G r => w F' H' v G r.bw_of
  | error y => exact w⟩
theorem pk_fz (h : PE X a (tK X.K x .ow f)) : PE X a (tK X.K x .fz f) := pe_wk h fun σ H Q ⟨F, ρ, r, S, e, w⟩ => ⟨F, ρ, r, S, e, by
  cases r with
  | error y => exact w
  | ok d =>
    intro F' H' v G q
    obtain ⟨l, vs, ds, e1, e2, e0, e5, e3, e4⟩ := q
    subst e1 e2
    have ex : Ex F' (upd F' l (.lst vs)) := .new e5
    refine w (upd F' l (.lst vs)) H' (.ref l) ⟨G.f.trans ex, G.h, fun c o hc => ?_, fun c o hc => ?_⟩ (Rep.lst upd_same (e4.mono ex))
    · by_cases q : c = l
      · subst q; rw [upd_same] at hc; rw [← hc]; exact e3
      · rw [upd_ne q] at hc; exact G.i c o hc
    · rw [upd_ne (ne_of_none hc e0)]
      exact G.n c o hc⟩

/-! ### names and constants -/
def eVar (i : Nat) : Ro → EM D := fun ρ => match ρ[i]? with
  | some (.fz d) => ok d
  | _ => none
/-- .. of a list of one's own, read -/
def eVarB (i : Nat) : Ro → EM D := fun ρ => match ρ[i]? with
  | some (.fz d) => ok d
  | some (.ow ds) => ok (.lst ds)
  | _ => none
def eC (d : D) : Ro → EM D := fun _ => ok d
theorem pk_var {i : Nat} (h : PE X a (tVar i)) : PE X a (tK X.K x .fz (eVar i)) := pe_wk h fun σ H Q ⟨F, ρ, r, S, e, w⟩ => by
  unfold eVar at e
  cases er : ρ[i]? with
  | none => rw [er] at e; cases e
  | some u =>
    rw [er] at e
    cases u with
    | un => cases e
    | ow ds => cases e
    | tk n => cases e
    | fz d =>
      cases (Option.some.inj e)
      obtain ⟨v, h1, h2⟩ := S.fz i d er
      exact ⟨v, h1, w F H v (.refl S.fh) h2⟩
theorem pk_varB {i : Nat} (h : PE X a (tVar i)) : PE X a (tK X.K x .bw (eVarB i)) := pe_wk h fun σ H Q ⟨F, ρ, r, S, e, w⟩ => by
  unfold eVarB at e
  cases er : ρ[i]? with
  | none => rw [er] at e; cases e
  | some u =>
    rw [er] at e
    cases u with
    | un => cases e
    | tk n => cases e
    | ow ds =>
      cases (Option.some.inj e)
      obtain ⟨l, vs, h1, h2, h3, h4, h5⟩ := S.ow i ds er
      exact ⟨_, h1, w F H _ (.refl S.fh) (.inr ⟨l, vs, ds, rfl, rfl, h4, h5⟩)⟩
    | fz d =>
      cases (Option.some.inj e)
      obtain ⟨v, h1, h2⟩ := S.fz i d er
      exact ⟨v, h1, w F H v (.refl S.fh) (.inl h2)⟩
theorem pk_c {v : V} {d : D} (h : PE X a (tC v)) (r : ∀ F, Rep X.K x.A F v d) : PE X a (tK X.K x .fz (eC d)) := pe_wk h fun σ H Q ⟨F, ρ, q, S, e, w⟩ => by
  cases (Option.some.inj e)
  exact w F H v (.refl S.fh) (r F)
theorem pk_int {i : Int} {j pos} : PE X (.Constant (.int i) j pos) (tK X.K x .fz (eC (.int i))) := pk_c pe_int fun _ => .int i
theorem pk_str {i : Str} {j pos} : PE X (.Constant (.str i) j pos) (tK X.K x .fz (eC (.str i))) := pk_c pe_str fun _ => .str i
theorem pk_bl {i : Bool} {j pos} : PE X (.Constant (.bool i) j pos) (tK X.K x .fz (eC (.bl i))) := pk_c pe_bl fun _ => .bl i
theorem pk_non {j pos} : PE X (.Constant .none j pos) (tK X.K x .fz (eC .non)) := pk_c pe_non fun _ => .non

/-! ### arguments -/
def aNil : Ro → EM (List D) := fun _ => ok []
def aCons (f : Ro → EM D) (g : Ro → EM (List D)) : Ro → EM (List D) := fun ρ => bnd (f ρ) fun d => bnd (g ρ) fun ds => ok (d :: ds)
theorem pka_nil : PA X [] (tA X.K x k aNil) := pa_wk pa_nil fun σ H Q ⟨F, ρ, q, S, e, w⟩ => by
  cases (Option.some.inj e)
  exact w F H [] (.refl S.fh) .nil
theorem pka_cons {es : List Expr} {fs : Ro → EM (List D)} (ha : PE X a (tK X.K x k f)) (hs : PA X es (tA X.K x k fs)) (he : starEach (a :: es) X.env = (false, eval a X.env) :: starEach es X.env := by rfl) :
    PA X (a :: es) (tA X.K x k (aCons f fs)) := pa_wk (pa_cons ha hs he) fun σ H Q ⟨F, ρ, r, S, e, w⟩ =>
  tk_step S e (fun y h => by subst h; exact w) fun d F1 H1 v G1 S1 r1 e1 =>
    ta_step S1 e1 (fun y h => by subst h; exact Wx.grow (K := X.K) G1 w) fun ds F2 H2 vs G2 S2 r2 e2 => by
      cases (Option.some.inj e2)
      exact w F2 H2 _ (G1.trans G2) (.cons (r1.grow G2) (r2.old G1.h))

/-! ### blocks, ifs, returns -/
def sSeq (g1 g2 : Ro → Option Fl) : Ro → Option Fl := fun ρ => match g1 ρ with
  | some (.nx ρ') => g2 ρ'
  | o => o
def sNil : Ro → Option Fl := fun ρ => some (.nx ρ)
theorem pks_nil : PSs X [] (tS X.K x sNil) := pss_wk pss_nil fun E σ H ⟨F, ρ, fl, S, e, w⟩ => by
  cases (Option.some.inj e)
  exact w F H σ (.refl _) S
theorem pks_cons {st : Stmt} {rest : List Stmt} {g1 g2 : Ro → Option Fl} (h1 : PS X st (tS X.K x g1)) (h2 : PSs X rest (tS X.K x g2)) : PSs X (st :: rest) (tS X.K x (sSeq g1 g2)) :=
  pss_wk (pss_cons h1 h2) fun E σ H ⟨F, ρ, fl, S, e, w⟩ => by
    unfold sSeq at e
    cases eg : g1 ρ with
    | none => rw [eg] at e; cases e
    | some f1 =>
      rw [eg] at e
      cases f1 with
      | nx ρ' => exact ⟨F, ρ, .nx ρ', S, eg, fun F' H' σ' G S' => ⟨F', ρ', fl, S', e, w.mono G⟩⟩
      | rt d => cases (Option.some.inj e); exact ⟨F, ρ, _, S, eg, w⟩
      | rto d => cases (Option.some.inj e); exact ⟨F, ρ, _, S, eg, w⟩
      | bk d => cases (Option.some.inj e); exact ⟨F, ρ, _, S, eg, w⟩
      | ct d => cases (Option.some.inj e); exact ⟨F, ρ, _, S, eg, w⟩
      | ex y d => cases (Option.some.inj e); exact ⟨F, ρ, _, S, eg, w⟩
theorem pks_one {st : Stmt} {g1 : Ro → Option Fl} (h1 : PS X st (tS X.K x g1)) : PSs X [st] (tS X.K x g1) := pss_one h1
/-- an expression, then what it gives goes on -/
def toS {α : Type} (ρ : Ro) (m : EM α) (g : α → Option Fl) : Option Fl := match m with
  | none => none
  | some (.error e) => some (.ex e ρ)
  | some (.ok a) => g a
def sIf (c : Ro → EM Bool) (g1 g2 : Ro → Option Fl) : Ro → Option Fl := fun ρ => toS ρ (c ρ) fun b => if b = true then g1 ρ else g2 ρ
theorem pks_if {c : Expr} {s1 s2 : List Stmt} {fc : Ro → EM Bool} {g1 g2 : Ro → Option Fl} (hc : PT X c (tT X.K x fc)) (h1 : PSs X s1 (tS X.K x g1)) (h2 : PSs X s2 (tS X.K x g2)) : PS X (.If c s1 s2 pos) (tS X.K x (sIf fc g1 g2)) :=
  ps_wk (ps_if hc h1 h2) fun E σ H ⟨F, ρ, fl, S, e, w⟩ => by
    unfold sIf toS at e
    cases ec : fc ρ with
    | none => rw [ec] at e; cases e
    | some r =>
      rw [ec] at e
      cases r with
      | error y => cases (Option.some.inj e); exact ⟨F, ρ, _, S, ec, WdS.wx S w⟩
      | ok b =>
        refine ⟨F, ρ, _, S, ec, fun F' H' G => ?_⟩
        cases b with
        | true => exact ⟨F', ρ, fl, S.grow G, by simpa using e, w.mono G.f⟩
        | false => exact ⟨F', ρ, fl, S.grow G, by simpa using e, w.mono G.f⟩
/-- a statement that begins with an expression -/
theorem ts_step {f : Ro → EM D} {g : D → Option Fl} {fl : Fl} {F H : Hp} {σ : L2.St} {ρ : Ro} {E : Ends} {Q : VK} (S : SR X.K x.A x.T x.B x.F0 F H σ ρ) (e : toS ρ (f ρ) g = some fl) (w : WdS X.K x fl F E)
    (hk : ∀ d F' H' v, Grow F H F' H' → SR X.K x.A x.T x.B x.F0 F' H' σ ρ → RK X.K x.A k F' H H' v d → g d = some fl → WdS X.K x fl F' E → Q v H') : tK X.K x k f σ H Q := by
  unfold toS at e
  cases ef : f ρ with
  | none => rw [ef] at e; cases e
  | some q =>
    rw [ef] at e
    cases q with
    | error y =>
      cases (Option.some.inj e)
      exact ⟨F, ρ, .error y, S, ef, WdS.wx S w⟩
    | ok d => exact ⟨F, ρ, .ok d, S, ef, fun F' H' v G r' => hk d F' H' v G (S.grow G) r' e (w.mono G.f)⟩
theorem SR.out {K : PySem.W.Frag} {A : Ad} {T : Nat → V} {B F0 F H : Hp} {σ : L2.St} {ρ : Ro} (S : SR K A T B F0 F H σ ρ) : Grow F0 B F H := ⟨S.f0, S.bh, S.fh, S.nw⟩
def sRet (f : Ro → EM D) : Ro → Option Fl := fun ρ => toS ρ (f ρ) fun d => some (.rt d)
theorem pks_ret (h : PE X a (tK X.K x .fz f)) : PS X (.Return (some a) pos) (tS X.K x (sRet f)) := ps_wk (ps_ret h) fun E σ H ⟨F, ρ, fl, S, e, w⟩ =>
  ts_step S e w fun d F' H' v G S' r e' w' => by
    cases (Option.some.inj e')
    exact w F' H' v S'.out r
/-- a new list is handed back, or a slot's own -/
def sRetO (f : Ro → EM D) : Ro → Option Fl := fun ρ => toS ρ (f ρ) fun d => match d with
  | .lst ds => some (.rto ds)
  | _ => none
theorem pks_retO (h : PE X a (tK X.K x .ow f)) : PS X (.Return (some a) pos) (tS X.K x (sRetO f)) := ps_wk (ps_ret h) fun E σ H ⟨F, ρ, fl, S, e, w⟩ =>
  ts_step S e w fun d F' H' v G S' r e' w' => by
    obtain ⟨l, vs, ds, e1, e2, e0, e5, e3, e4⟩ := r
    subst e1 e2
    cases (Option.some.inj e')
    exact w F' H' l vs S'.out (S.bh.free e0) e5 e3 e4
def sRetV (i : Nat) : Ro → Option Fl := fun ρ => match ρ[i]? with
  | some (.ow ds) => some (.rto ds)
  | _ => none
theorem pks_retV {i : Nat} (h : PE X a (tVar i)) : PS X (.Return (some a) pos) (tS X.K x (sRetV i)) := ps_wk (ps_ret h) fun E σ H ⟨F, ρ, fl, S, e, w⟩ => by
  unfold sRetV at e
  cases er : ρ[i]? with
  | none => rw [er] at e; cases e
  | some u =>
    rw [er] at e
    cases u with
    | un => cases e
    | tk n => cases e
    | fz d => cases e
    | ow ds =>
      cases (Option.some.inj e)
      obtain ⟨l, vs, h1, h2, h3, h4, h5⟩ := S.ow i ds er
      exact ⟨_, h1, w F H l vs S.out h3 h2 h4 h5⟩
def sRetN : Ro → Option Fl := fun _ => some (.rt .non)
theorem pks_retN : PS X (.Return none pos) (tS X.K x sRetN) := ps_wk ps_retN fun E σ H ⟨F, ρ, fl, S, e, w⟩ => by
  cases (Option.some.inj e)
  exact w F H .non S.out .non
def sPass : Ro → Option Fl := fun ρ => some (.nx ρ)
theorem pks_pass : PS X (.Pass pos) (tS X.K x sPass) := ps_wk ps_pass fun E σ H ⟨F, ρ, fl, S, e, w⟩ => by
  cases (Option.some.inj e)
  exact w F H σ (.refl _) S
def sBreak : Ro → Option Fl := fun ρ => some (.bk ρ)
def sCont : Ro → Option Fl := fun ρ => some (.ct ρ)
theorem pks_break : PS X (.Break pos) (tS X.K x sBreak) := ps_wk ps_break fun E σ H ⟨F, ρ, fl, S, e, w⟩ => by
  cases (Option.some.inj e)
  exact w F H σ (.refl _) S
theorem pks_cont : PS X (.Continue pos) (tS X.K x sCont) := ps_wk ps_continue fun E σ H ⟨F, ρ, fl, S, e, w⟩ => by
  cases (Option.some.inj e)
  exact w F H σ (.refl _) S
theorem pks_doc {z j pos pos'} : PS X (.Expr (.Constant (.str z) j pos) pos') (tS X.K x sPass) := ps_wk ps_doc fun E σ H ⟨F, ρ, fl, S, e, w⟩ => by
  cases (Option.some.inj e)
  exact w F H σ (.refl _) S
/-- what is never come to -/
def sNo : Ro → Option Fl := fun _ => none
theorem pks_never {st : Stmt} : PS X st (tS X.K x sNo) := ps_wk ps_never fun E σ H ⟨F, ρ, fl, S, e, w⟩ => nomatch e
/-- a list of one's own is frozen ahead of a statement -/
def frz (i : Nat) (g : Ro → Option Fl) : Ro → Option Fl := fun ρ => match ρ[i]? with
  | some (.ow ds) => g (ρ.set i (.fz (.lst ds)))
  | some (.fz _) => g ρ
  | _ => none
theorem frz_ok {i : Nat} {g : Ro → Option Fl} {E : Ends} {σ : L2.St} {H : Hp} (h : tS X.K x (frz i g) E σ H) : tS X.K x g E σ H := by
  obtain ⟨F, ρ, fl, S, e, w⟩ := h
  unfold frz at e
  cases er : ρ[i]? with
  | none => rw [er] at e; cases e
  | some u =>
    rw [er] at e
    cases u with
    | un => cases e
    | tk n => cases e
    | fz d => exact ⟨F, ρ, fl, S, e, w⟩
    | ow ds =>
      obtain ⟨F', ex, S'⟩ := S.freeze er
      exact ⟨F', _, fl, S', e, w.mono ex⟩
theorem pks_frz {st : Stmt} {i : Nat} {g : Ro → Option Fl} (h : PS X st (tS X.K x g)) : PS X st (tS X.K x (frz i g)) := ps_wk h fun E σ H q => frz_ok q

/-! ### stores -/
def sSet (i : Nat) (f : Ro → EM D) : Ro → Option Fl := fun ρ => toS ρ (f ρ) fun d => some (.nx (ρ.set i (.fz d)))
theorem tsAsg {i : Nat} {E : Ends} {σ : L2.St} {H : Hp} (h : tS X.K x (sSet i f) E σ H) : tAsg (tK X.K x .fz f) (gName i) E σ H := by
  obtain ⟨F, ρ, fl, S, e, w⟩ := h
  exact ts_step S e w fun d F' H' v G S' r e' w' => by
    cases (Option.some.inj e')
    exact w' F' H' _ (.refl _) (S'.setF r)
theorem pks_set {i : Nat} {st : Stmt} (h : ∀ te, PE X a te → PS X st (tAsg te (gName i))) (he : PE X a (tK X.K x .fz f)) : PS X st (tS X.K x (sSet i f)) := ps_wk (h _ he) fun E σ H q => tsAsg q
/-- a new list to a slot -/
def sSetO (i : Nat) (f : Ro → EM D) : Ro → Option Fl := fun ρ => toS ρ (f ρ) fun d => match d with
  | .lst ds => some (.nx (ρ.set i (.ow ds)))
  | _ => none
theorem SR.setNew {K : PySem.W.Frag} {A : Ad} {T : Nat → V} {B F0 F H F' H' : Hp} {σ : L2.St} {ρ : Ro} {i : Nat} {l : Addr} {vs : List V} {ds : List D} (S : SR K A T B F0 F H σ ρ) (S' : SR K A T B F0 F' H' σ ρ) (e0 : H l = none) (e5 : F' l = none) (e3 : H' l = some (.lst vs)) (e4 : RepL K A F' vs ds) :
    SR K A T B F0 F' H' (σ.set i (some (.ref l))) (ρ.set i (.ow ds)) := S'.setO e5 (S.bh.free e0) e3 e4 fun j es _ hj z => by
  obtain ⟨l', vs', q1, _, _, q4, _⟩ := S.ow j es hj
  rw [q1] at z
  cases z
  rw [e0] at q4
  cases q4
theorem tsAsgO {i : Nat} {E : Ends} {σ : L2.St} {H : Hp} (h : tS X.K x (sSetO i f) E σ H) : tAsg (tK X.K x .ow f) (gName i) E σ H := by
  obtain ⟨F, ρ, fl, S, e, w⟩ := h
  exact ts_step S e w fun d F' H' v G S' r e' w' => by
    obtain ⟨l, vs, ds, e1, e2, e0, e5, e3, e4⟩ := r
    subst e1 e2
    cases (Option.some.inj e')
    exact w' F' H' _ (.refl _) (S.setNew S' e0 e5 e3 e4)
theorem pks_setO {i : Nat} {st : Stmt} (h : ∀ te, PE X a te → PS X st (tAsg te (gName i))) (he : PE X a (tK X.K x .ow f)) : PS X st (tS X.K x (sSetO i f)) := ps_wk (h _ he) fun E σ H q => tsAsgO q
/-- a slot's list goes to another slot -/
def sMove (i j : Nat) : Ro → Option Fl := fun ρ => match ρ[j]? with
  | some (.ow ds) => if i = j then none else some (.nx ((ρ.set j .un).set i (.ow ds)))
  | some (.fz d) => some (.nx (ρ.set i (.fz d)))
  | _ => none
theorem tsMove {i j : Nat} {E : Ends} {σ : L2.St} {H : Hp} (h : tS X.K x (sMove i j) E σ H) : tAsg (tVar j) (gName i) E σ H := by
  obtain ⟨F, ρ, fl, S, e, w⟩ := h
  unfold sMove at e
  cases er : ρ[j]? with
  | none => rw [er] at e; cases e
  | some u =>
    rw [er] at e
    cases u with
    | un => cases e
    | tk n => cases e
    | fz d =>
      cases (Option.some.inj e)
      obtain ⟨v, h1, h2⟩ := S.fz j d er
      exact ⟨v, h1, w F H _ (.refl _) (S.setF h2)⟩
    | ow ds =>
      simp only at e
      by_cases hij : i = j
      · rw [if_pos hij] at e; cases e
      · rw [if_neg hij] at e
        cases (Option.some.inj e)
        obtain ⟨l, vs, h1, h2, h3, h4, h5⟩ := S.ow j ds er
        refine ⟨_, h1, w F H _ (.refl _) ((S.drop (i := j)).setO h2 h3 h4 h5 fun m es hm hm' z => ?_)⟩
        rcases set_get hm' with ⟨rfl, q⟩ | ⟨q, hm2⟩
        · cases q
        · exact S.sep m j es ds q hm2 er (by rw [z, h1])
theorem pks_move {i j : Nat} {st : Stmt} (h : ∀ te, PE X a te → PS X st (tAsg te (gName i))) (he : PE X a (tVar j)) : PS X st (tS X.K x (sMove i j)) := ps_wk (h _ he) fun E σ H q => tsMove q
end
end Tw
/-! TwB: operators, comparisons, subscripts, built-ins over data. -/
namespace Tw
open PySem PySem.Spec PyProof.Rows L2

/-! ### the ends of an operation -/
section
variable {K : PySem.W.Frag} {x : Fx} {k : Kd} {F H : Hp} {σ : L2.St} {Q : VK} {d : D} {ds : List D} {v : V} {vs : List V}
theorem Wd.val (w : Wd K x k (.ok d) F H σ Q) (e : Ex F H) (r : Rep K x.A F v d) (hk : k ≠ .ow) : Q v H := by
  cases k with
  | fz => exact w F H v (.refl e) r
  | bw => exact w F H v (.refl e) (.inl r)
  | ow => exact absurd rfl hk
theorem Wd.newL (w : Wd K x k (.ok (.lst ds)) F H σ Q) (e : Ex F H) (r : RepL K x.A F vs ds) : ∀ p, H p = none → Q (.ref p) (upd H p (.lst vs)) := fun p hp => by
  have fr := Grow.new (o := .lst vs) e hp
  cases k with
  | fz => exact w _ _ _ fr (Rep.lst upd_same (r.mono fr.f))
  | bw => exact w _ _ _ fr (.inl (Rep.lst upd_same (r.mono fr.f)))
  | ow => exact w _ _ _ (Grow.raw e hp) ⟨p, vs, ds, rfl, rfl, hp, e.free hp, upd_same, r⟩
theorem Wd.newT (w : Wd K x k (.ok (.tup ds)) F H σ Q) (e : Ex F H) (r : RepL K x.A F vs ds) (hk : k ≠ .ow) : ∀ p, H p = none → Q (.ref p) (upd H p (.tup vs)) := fun p hp => by
  have fr := Grow.new (o := .tup vs) e hp
  cases k with
  | fz => exact w _ _ _ fr (Rep.tup upd_same (r.mono fr.f))
  | bw => exact w _ _ _ fr (.inl (Rep.tup upd_same (r.mono fr.f)))
  | ow => exact absurd rfl hk
end

/-! ### two places -/
def Op2 (K : PySem.W.Frag) (x : Fx) (k : Kd) (r : R2) (h : D → D → EM D) : Prop := ∀ (F H : Hp) (σ : L2.St) (v u : V) (d e : D) (q : D) (Q : VK),
  Ex F H → RK K x.A .bw F H H v d → RK K x.A .bw F H H u e → h d e = some (.ok q) → Wd K x k (.ok q) F H σ Q → r v u H Q
def eOp (h : D → D → EM D) (f g : Ro → EM D) : Ro → EM D := fun ρ => bnd (f ρ) fun d => bnd (g ρ) fun e => h d e
def NoX (h : D → D → EM D) : Prop := ∀ d e y, h d e ≠ some (.error y)
section
variable {X : Cx} {x : Fx} {f g : Ro → EM D} {k : Kd} {a b : Expr} {pos : Pos} {r : R2} {h : D → D → EM D}
theorem tk_op (hr : Op2 X.K x k r h) (hn : NoX h) {σ : L2.St} {H : Hp} {Q : VK} (q : tK X.K x k (eOp h f g) σ H Q) : tOp r (tK X.K x .bw f) (tK X.K x .bw g) σ H Q := by
  obtain ⟨F, ρ, z, S, e, w⟩ := q
  refine tk_step S e w.x fun d F1 H1 v G1 S1 r1 e1 => tk_step S1 e1 (fun y hy => Wx.grow (K := X.K) G1 (w.x y hy)) fun c F2 H2 u G2 S2 r2 e2 => ?_
  cases z with
  | error y => exact absurd e2 (hn d c y)
  | ok z => exact hr F2 H2 σ v u d c z Q S2.fh (r1.grow G2) r2 e2 (w.grow (G1.trans G2))
theorem pk_op {op : Operator} (ho : OpR X (binaryOp op) r) (hr : Op2 X.K x k r h) (hn : NoX h) (ha : PE X a (tK X.K x .bw f)) (hb : PE X b (tK X.K x .bw g)) : PE X (.BinOp a op b pos) (tK X.K x k (eOp h f g)) := pe_wk (pe_op ho ha hb) fun _ _ _ q => tk_op hr hn q
theorem pk_cmp {op : CmpOp} (ho : OpR X (compareOp op) r) (hr : Op2 X.K x k r h) (hn : NoX h) (hm : behindInMarks op b = false) (ha : PE X a (tK X.K x .bw f)) (hb : PE X b (tK X.K x .bw g)) : PE X (.Compare a [op] [b] pos) (tK X.K x k (eOp h f g)) := pe_wk (pe_cmpR ho ha hb hm) fun _ _ _ q => tk_op hr hn q
theorem pk_ixR (ho : IxR X r) (hr : Op2 X.K x k r h) (hn : NoX h) (hs : PlainIx b) (ha : PE X a (tK X.K x .bw f)) (hb : PE X b (tK X.K x .bw g)) : PE X (.Subscript a b pos) (tK X.K x k (eOp h f g)) := pe_wk (pe_ix ho ha hb hs) fun _ _ _ q => tk_op hr hn q
theorem Op2.or {r' : R2} (h1 : ∀ (F H : Hp) (σ : L2.St) (v u : V) (d e : D) (q : D) (Q : VK), Ex F H → RK X.K x.A .bw F H H v d → RK X.K x.A .bw F H H u e → h d e = some (.ok q) → Wd X.K x k (.ok q) F H σ Q → r v u H Q ∨ r' v u H Q) : Op2 X.K x k (fun v u H Q => r v u H Q ∨ r' v u H Q) h := h1
/-- what is no list -/
theorem rk_int {K : PySem.W.Frag} {A : Ad} {F H H0 : Hp} {v : V} {i : Int} (h : RK K A .bw F H0 H v (.int i)) : v = .int i := by
  cases (RK.rep h fun _ z => by cases z)
  rfl
theorem rk_str {K : PySem.W.Frag} {A : Ad} {F H H0 : Hp} {v : V} {i : Str} (h : RK K A .bw F H0 H v (.str i)) : v = .str i := by
  cases (RK.rep h fun _ z => by cases z)
  rfl
theorem rk_bl {K : PySem.W.Frag} {A : Ad} {F H H0 : Hp} {v : V} {i : Bool} (h : RK K A .bw F H0 H v (.bl i)) : v = .bl i := by
  cases (RK.rep h fun _ z => by cases z)
  rfl
theorem rk_non {K : PySem.W.Frag} {A : Ad} {F H H0 : Hp} {v : V} (h : RK K A .bw F H0 H v .non) : v = .non := by
  cases (RK.rep h fun _ z => by cases z)
  rfl
theorem rk_tup {K : PySem.W.Frag} {A : Ad} {F H H0 : Hp} {v : V} {ds : List D} (h : RK K A .bw F H0 H v (.tup ds)) : ∃ a vs, v = .ref a ∧ F a = some (.tup vs) ∧ RepL K A F vs ds := by
  cases (RK.rep h fun _ z => by cases z) with
  | tup h1 r => exact ⟨_, _, rfl, h1, r⟩
theorem rk_scr {K : PySem.W.Frag} {A : Ad} {F H H0 : Hp} {v : V} {ns : List Int} (h : RK K A .bw F H0 H v (.scr ns)) : ∃ a, v = .ref a ∧ SqL K F a (ns.map V.int) := by
  cases (RK.rep h fun _ z => by cases z) with
  | scr h1 => exact ⟨_, rfl, h1⟩

/-! ### arithmetic -/
def dI (C : Int → Int → Bool) (g : Int → Int → Int) : D → D → EM D
  | .int i, .int j => if C i j = true then ok (.int (g i j)) else none
  | _, _ => none
def dB (g : Int → Int → Bool) : D → D → EM D
  | .int i, .int j => ok (.bl (g i j))
  | _, _ => none
theorem nox_I {C : Int → Int → Bool} {g : Int → Int → Int} : NoX (dI C g) := fun d e y q => by
  unfold dI at q
  split at q
  · split at q <;> cases q
  · cases q
theorem nox_B {g : Int → Int → Bool} : NoX (dB g) := fun d e y q => by
  unfold dB at q
  split at q <;> cases q
theorem op2_I {C' : Int → Int → Prop} {C : Int → Int → Bool} {gi : Int → Int → Int} (hC : ∀ i j, C i j = true → C' i j) : Op2 X.K x .fz (rI C' fun i j => .int (gi i j)) (dI C gi) := fun F H σ v u d e q Q ex rv ru hq w => by
  unfold dI at hq
  split at hq
  · split at hq
    · cases (Option.some.inj hq)
      rw [rk_int rv, rk_int ru]
      rename_i i j hc
      exact ⟨_, _, rfl, rfl, hC _ _ hc, w.val ex (.int _) (by decide)⟩
    · cases hq
  · cases hq
theorem op2_I0 {gi : Int → Int → Int} : Op2 X.K x .fz (rI0 fun i j => .int (gi i j)) (dI (fun _ _ => true) gi) := fun F H σ v u d e q Q ex rv ru hq w => by
  unfold dI at hq
  split at hq
  · rw [if_pos rfl] at hq
    cases (Option.some.inj hq)
    rw [rk_int rv, rk_int ru]
    exact ⟨_, _, rfl, rfl, w.val ex (.int _) (by decide)⟩
  · cases hq
theorem op2_B {gi : Int → Int → Bool} : Op2 X.K x .fz (rI0 fun i j => .bl (gi i j)) (dB gi) := fun F H σ v u d e q Q ex rv ru hq w => by
  unfold dB at hq
  split at hq
  · cases (Option.some.inj hq)
    rw [rk_int rv, rk_int ru]
    exact ⟨_, _, rfl, rfl, w.val ex (.bl _) (by decide)⟩
  · cases hq
def cMul (i j : Int) : Bool := (decide (-(2 ^ 64) < i) && decide (i < 2 ^ 64)) || (decide (-(2 ^ 64) < j) && decide (j < 2 ^ 64))
def cDiv (_ j : Int) : Bool := decide (0 < j) && decide (j < 1073741824)
def cPos (_ j : Int) : Bool := decide (0 < j)
def cNn (_ j : Int) : Bool := decide (0 ≤ j)
def cPow (i j : Int) : Bool := decide (0 ≤ j) && (decide (j ≤ 1000000) && decide (i.natAbs < 2 ^ 64))
def dSub := dI (fun _ _ => true) fun i j => i - j
def dMul := dI cMul fun i j => i * j
def dDiv := dI cDiv fun i j => i / j
def dMod := dI cPos fun i j => i % j
def dPow := dI cPow fun i j => i ^ j.toNat
def dShl := dI cPow fun i j => i * 2 ^ j.toNat
def dShr := dI cNn fun i j => i / 2 ^ j.toNat
def dAnd := dI (fun _ _ => true) Builtin.bitAnd
def dOr := dI (fun _ _ => true) Builtin.bitOr
theorem cPow_ok {i j : Int} (h : cPow i j = true) : CPow i j := by
  unfold cPow at h
  simp only [Bool.and_eq_true, decide_eq_true_eq] at h
  exact h
theorem pk_sub (ha : PE X a (tK X.K x .bw f)) (hb : PE X b (tK X.K x .bw g)) : PE X (.BinOp a .Sub b pos) (tK X.K x .fz (eOp dSub f g)) := pk_op op_sub op2_I0 nox_I ha hb
theorem pk_mul (ha : PE X a (tK X.K x .bw f)) (hb : PE X b (tK X.K x .bw g)) : PE X (.BinOp a .Mult b pos) (tK X.K x .fz (eOp dMul f g)) := pk_op op_mul (op2_I fun i j h => by
  unfold cMul at h
  simp only [Bool.or_eq_true, Bool.and_eq_true, decide_eq_true_eq] at h
  exact h) nox_I ha hb
theorem pk_div (ha : PE X a (tK X.K x .bw f)) (hb : PE X b (tK X.K x .bw g)) : PE X (.BinOp a .FloorDiv b pos) (tK X.K x .fz (eOp dDiv f g)) := pk_op op_fdiv (op2_I fun i j h => by
  unfold cDiv at h
  simp only [Bool.and_eq_true, decide_eq_true_eq] at h
  exact h) nox_I ha hb
theorem pk_mod (ha : PE X a (tK X.K x .bw f)) (hb : PE X b (tK X.K x .bw g)) : PE X (.BinOp a .Mod b pos) (tK X.K x .fz (eOp dMod f g)) := pk_op op_mod (op2_I fun i j h => of_decide_eq_true h) nox_I ha hb
theorem pk_pow (ha : PE X a (tK X.K x .bw f)) (hb : PE X b (tK X.K x .bw g)) : PE X (.BinOp a .Pow b pos) (tK X.K x .fz (eOp dPow f g)) := pk_op op_pow (op2_I fun i j h => cPow_ok h) nox_I ha hb
theorem pk_shl (ha : PE X a (tK X.K x .bw f)) (hb : PE X b (tK X.K x .bw g)) : PE X (.BinOp a .LShift b pos) (tK X.K x .fz (eOp dShl f g)) := pk_op op_shl (op2_I fun i j h => cPow_ok h) nox_I ha hb
theorem pk_shr (ha : PE X a (tK X.K x .bw f)) (hb : PE X b (tK X.K x .bw g)) : PE X (.BinOp a .RShift b pos) (tK X.K x .fz (eOp dShr f g)) := pk_op op_shr (op2_I fun i j h => of_decide_eq_true h) nox_I ha hb
theorem pk_and (ha : PE X a (tK X.K x .bw f)) (hb : PE X b (tK X.K x .bw g)) : PE X (.BinOp a .BitAnd b pos) (tK X.K x .fz (eOp dAnd f g)) := pk_op op_and op2_I0 nox_I ha hb
theorem pk_or (ha : PE X a (tK X.K x .bw f)) (hb : PE X b (tK X.K x .bw g)) : PE X (.BinOp a .BitOr b pos) (tK X.K x .fz (eOp dOr f g)) := pk_op op_or op2_I0 nox_I ha hb

/-! ### + -/
/-- ints, texts, tuples -/
def dAdd : D → D → EM D
  | .int i, .int j => ok (.int (i + j))
  | .str i, .str j => if i.length + j.length ≤ sizeLine then ok (.str (i ++ j)) else none
  | .tup xs, .tup ys => if xs.length + ys.length ≤ sizeLine then ok (.tup (xs ++ ys)) else none
  | _, _ => none
/-- lists -/
def dCat : D → D → EM D
  | .lst xs, .lst ys => if xs.length + ys.length ≤ sizeLine then ok (.lst (xs ++ ys)) else none
  | _, _ => none
theorem nox_add : NoX dAdd := fun d e y q => by
  unfold dAdd at q
  split at q
  · cases q
  · split at q <;> cases q
  · split at q <;> cases q
  · cases q
theorem nox_cat : NoX dCat := fun d e y q => by
  unfold dCat at q
  split at q
  · split at q <;> cases q
  · cases q
theorem op2_cat : Op2 X.K x k rCat dCat := fun F H σ v u d e q Q ex rv ru hq w => by
  unfold dCat at hq
  split at hq
  · split at hq
    · rename_i hz
      cases (Option.some.inj hq)
      obtain ⟨p, vs, rfl, h1, q1⟩ := rv.lst ex
      obtain ⟨p', vs', rfl, h2, q2⟩ := ru.lst ex
      refine ⟨_, _, _, _, rfl, rfl, h1, h2, by rw [q1.length, q2.length]; exact hz, w.newL ex (q1.app q2)⟩
    · cases hq
  · cases hq
theorem pk_cat (ha : PE X a (tK X.K x .bw f)) (hb : PE X b (tK X.K x .bw g)) : PE X (.BinOp a .Add b pos) (tK X.K x k (eOp dCat f g)) := pk_op op_cat op2_cat nox_cat ha hb
theorem op2_add : Op2 X.K x .fz (fun v u H Q => (rI0 fun i j => .int (i + j)) v u H Q ∨ ((∃ i j, v = .str i ∧ u = .str j ∧ i.length + j.length ≤ sizeLine ∧ Q (.str (i ++ j)) H) ∨ rCatA X.K v u H Q)) dAdd := fun F H σ v u d e q Q ex rv ru hq w => by
  unfold dAdd at hq
  split at hq
  · cases (Option.some.inj hq)
    rw [rk_int rv, rk_int ru]
    exact .inl ⟨_, _, rfl, rfl, w.val ex (.int _) (by decide)⟩
  · split at hq
    · rename_i hz
      cases (Option.some.inj hq)
      rw [rk_str rv, rk_str ru]
      exact .inr (.inl ⟨_, _, rfl, rfl, hz, w.val ex (.str _) (by decide)⟩)
    · cases hq
  · split at hq
    · rename_i xs ys hz
      cases (Option.some.inj hq)
      obtain ⟨p, vs, rfl, h1, q1⟩ := rk_tup rv
      obtain ⟨p', vs', rfl, h2, q2⟩ := rk_tup ru
      refine .inr (.inr ⟨_, _, _, _, rfl, rfl, .of (ex _ _ h1), .of (ex _ _ h2), by rw [q1.length, q2.length]; exact hz, fun e0 => ?_, fun _ e0 => ?_, fun _ _ => w.newT ex (q1.app q2) (by decide)⟩)
      · subst e0
        cases q1
        exact w.val ex (.tup h2 q2) (by decide)
      · subst e0
        cases q2
        rw [List.append_nil] at w
        exact w.val ex (.tup h1 q1) (by decide)
    · cases hq
  · cases hq
theorem pk_add (ha : PE X a (tK X.K x .bw f)) (hb : PE X b (tK X.K x .bw g)) : PE X (.BinOp a .Add b pos) (tK X.K x .fz (eOp dAdd f g)) := pk_op (op_add.or (op_add_str.or op_catA)) op2_add nox_add ha hb
/-- [..] * n -/
def dRep : D → D → EM D
  | .lst xs, .int n => if -(2 ^ 63) ≤ n ∧ n < 2 ^ 63 ∧ xs.length * n.toNat ≤ sizeLine then ok (.lst (List.replicate n.toNat xs).flatten) else none
  | _, _ => none
theorem nox_rep : NoX dRep := fun d e y q => by
  unfold dRep at q
  split at q
  · split at q <;> cases q
  · cases q
theorem RepL.rep {K : PySem.W.Frag} {A : Ad} {H : Hp} {vs : List V} {ds : List D} (r : RepL K A H vs ds) : ∀ n : Nat, RepL K A H (List.replicate n vs).flatten (List.replicate n ds).flatten
  | 0 => .nil
  | n + 1 => by
    rw [List.replicate_succ, List.replicate_succ, List.flatten_cons, List.flatten_cons]
    exact r.app (RepL.rep r n)
theorem op2_rep : Op2 X.K x k rRep dRep := fun F H σ v u d e q Q ex rv ru hq w => by
  unfold dRep at hq
  split at hq
  · split at hq
    · rename_i hz
      cases (Option.some.inj hq)
      obtain ⟨p, vs, rfl, h1, q1⟩ := rv.lst ex
      rw [rk_int ru]
      refine ⟨_, _, _, rfl, rfl, h1, hz.1, hz.2.1, by rw [q1.length]; exact hz.2.2, w.newL ex (q1.rep _)⟩
    · cases hq
  · cases hq
theorem pk_rep (ha : PE X a (tK X.K x .bw f)) (hb : PE X b (tK X.K x .bw g)) : PE X (.BinOp a .Mult b pos) (tK X.K x k (eOp dRep f g)) := pk_op op_rep op2_rep nox_rep ha hb

/-! ### comparisons -/
def dLt := dB fun i j => decide (i < j)
def dLe := dB fun i j => decide (i ≤ j)
def dGt := dB fun i j => decide (j < i)
def dGe := dB fun i j => decide (j ≤ i)
theorem pk_lt (ha : PE X a (tK X.K x .bw f)) (hb : PE X b (tK X.K x .bw g)) : PE X (.Compare a [.Lt] [b] pos) (tK X.K x .fz (eOp dLt f g)) := pk_cmp op_lt op2_B nox_B (nomark _) ha hb
theorem pk_le (ha : PE X a (tK X.K x .bw f)) (hb : PE X b (tK X.K x .bw g)) : PE X (.Compare a [.LtE] [b] pos) (tK X.K x .fz (eOp dLe f g)) := pk_cmp op_le op2_B nox_B (nomark _) ha hb
theorem pk_gt (ha : PE X a (tK X.K x .bw f)) (hb : PE X b (tK X.K x .bw g)) : PE X (.Compare a [.Gt] [b] pos) (tK X.K x .fz (eOp dGt f g)) := pk_cmp op_gt op2_B nox_B (nomark _) ha hb
theorem pk_ge (ha : PE X a (tK X.K x .bw f)) (hb : PE X b (tK X.K x .bw g)) : PE X (.Compare a [.GtE] [b] pos) (tK X.K x .fz (eOp dGe f g)) := pk_cmp op_ge op2_B nox_B (nomark _) ha hb
mutual
def py : D → PyData
  | .non => .none
  | .bl b => .bool b
  | .int i => .int i
  | .str x => .str x
  | .lst xs => .list (pyL xs)
  | .tup xs => .tuple (pyL xs)
  | .obj _ _ => .dict []
  | .scr ns => .list (ns.map .int)
  | .ord _ => .dict []
def pyL : List D → List PyData
  | [] => []
  | d :: ds => py d :: pyL ds
end
theorem pyL_map : ∀ ds : List D, pyL ds = ds.map py
  | [] => rfl
  | d :: ds => by unfold pyL; rw [pyL_map ds]; rfl
theorem dpAll_ints {K : PySem.W.Frag} {H : Hp} : ∀ ns : List Int, DpAll K H (ns.map V.int) (ns.map PyData.int)
  | [] => .nil
  | n :: ns => .cons (.int n) (dpAll_ints ns)
mutual
theorem Rep.dp {K : PySem.W.Frag} {A : Ad} {H : Hp} : ∀ {v : V} {d : D}, Rep K A H v d → (py d).canLay0 = true → Dp K H v (py d)
  | _, _, .non, _ => by unfold py; exact .non
  | _, _, .bl b, _ => by unfold py; exact .bl b
  | _, _, .int b, _ => by unfold py; exact .int b
  | _, _, .str b, _ => by unfold py; exact .str b
  | _, _, .lst h r, c => by
    unfold py at c ⊢
    exact .lst (.of h) (RepL.dp r (by unfold PyData.canLay0 at c; exact c))
  | _, _, .tup h r, c => by
    unfold py at c ⊢
    exact .tup (.of h) (RepL.dp r (by unfold PyData.canLay0 at c; exact c))
  | _, _, .obj _ h l r, c => by
    unfold py at c
    unfold PyData.canLay0 at c
    cases c
  | _, _, .scr h, _ => by
    unfold py
    exact .lst h (dpAll_ints _)
  | _, _, .ord h, c => by
    unfold py at c
    unfold PyData.canLay0 at c
    cases c
theorem RepL.dp {K : PySem.W.Frag} {A : Ad} {H : Hp} : ∀ {vs : List V} {ds : List D}, RepL K A H vs ds → PyData.canLayAll0 (pyL ds) = true → DpAll K H vs (pyL ds)
  | _, _, .nil, _ => by unfold pyL; exact .nil
  | _, _, .cons h r, c => by
    unfold pyL at c ⊢
    unfold PyData.canLayAll0 at c
    simp only [Bool.and_eq_true] at c
    exact .cons (Rep.dp h c.1) (RepL.dp r c.2)
end
/-- what == tells of scalars -/
def scalD : D → D → Option Bool
  | .non, .non => some true
  | .non, .int _ => some false
  | .int _, .non => some false
  | .non, .bl _ => some false
  | .bl _, .non => some false
  | .non, .str _ => some false
  | .str _, .non => some false
  | .int i, .int j => some (decide (i = j))
  | .bl i, .bl j => some (decide (i = j))
  | .str i, .str j => some (decide (i = j))
  | .int _, .str _ => some false
  | .str _, .int _ => some false
  | .bl _, .str _ => some false
  | .str _, .bl _ => some false
  | _, _ => none
/-- whether data may be compared -/
def fit (d : D) : Bool := SeqAt.shaped (py d)
def dEq (d e : D) : EM D := match scalD d e with
  | some b => ok (.bl b)
  | none => if fit d = true ∧ fit e = true then ok (.bl (PyData.eqv (py d) (py e))) else none
def dNe (d e : D) : EM D := match scalD d e with
  | some b => ok (.bl (!b))
  | none => if fit d = true ∧ fit e = true then ok (.bl (!PyData.eqv (py d) (py e))) else none
theorem nox_eq : NoX dEq := fun d e y q => by
  unfold dEq at q
  split at q
  · cases q
  · split at q <;> cases q
theorem nox_ne : NoX dNe := fun d e y q => by
  unfold dNe at q
  split at q
  · cases q
  · split at q <;> cases q
theorem scal_of {K : PySem.W.Frag} {A : Ad} {F H H0 H1 : Hp} {v u : V} {d e : D} {b : Bool} (rv : RK K A .bw F H0 H v d) (ru : RK K A .bw F H1 H u e) (h : scalD d e = some b) : scal v u = true ∧ b = decide (v = u) := by
  unfold scalD at h
  split at h <;> first
    | (have hb := Option.some.inj h
       subst hb
       first
         | (rw [rk_non rv, rk_non ru]; exact ⟨rfl, by simp⟩)
         | (rw [rk_non rv, rk_int ru]; exact ⟨rfl, by simp⟩)
         | (rw [rk_int rv, rk_non ru]; exact ⟨rfl, by simp⟩)
         | (rw [rk_non rv, rk_bl ru]; exact ⟨rfl, by simp⟩)
         | (rw [rk_bl rv, rk_non ru]; exact ⟨rfl, by simp⟩)
         | (rw [rk_non rv, rk_str ru]; exact ⟨rfl, by simp⟩)
         | (rw [rk_str rv, rk_non ru]; exact ⟨rfl, by simp⟩)
         | (rw [rk_int rv, rk_int ru]; exact ⟨rfl, by simp⟩)
         | (rw [rk_bl rv, rk_bl ru]; exact ⟨rfl, by simp⟩)
         | (rw [rk_str rv, rk_str ru]; exact ⟨rfl, by simp⟩)
         | (rw [rk_int rv, rk_str ru]; exact ⟨rfl, by simp⟩)
         | (rw [rk_str rv, rk_int ru]; exact ⟨rfl, by simp⟩)
         | (rw [rk_bl rv, rk_str ru]; exact ⟨rfl, by simp⟩)
         | (rw [rk_str rv, rk_bl ru]; exact ⟨rfl, by simp⟩))
    | cases h
theorem RK.dp {K : PySem.W.Frag} {A : Ad} {F H H0 : Hp} {v : V} {d : D} (e : Ex F H) (rv : RK K A .bw F H0 H v d) (h : fit d = true) : Dp K H v (py d) := (rv.all e).dp (SeqAt.canLay_of_shaped h)
theorem op2_eq : Op2 X.K x .fz (fun v u H Q => rEq v u H Q ∨ rEqD X.K v u H Q) dEq := fun F H σ v u d e q Q ex rv ru hq w => by
  unfold dEq at hq
  split at hq
  · rename_i b hb
    cases (Option.some.inj hq)
    obtain ⟨h1, h2⟩ := scal_of rv ru hb
    refine .inl ⟨h1, ?_⟩
    rw [← h2]
    exact w.val ex (.bl _) (by decide)
  · split at hq
    · rename_i hf
      cases (Option.some.inj hq)
      exact .inr ⟨_, _, rv.dp ex hf.1, ru.dp ex hf.2, hf.1, hf.2, w.val ex (.bl _) (by decide)⟩
    · cases hq
theorem op2_ne : Op2 X.K x .fz (fun v u H Q => rNe v u H Q ∨ rNeD X.K v u H Q) dNe := fun F H σ v u d e q Q ex rv ru hq w => by
  unfold dNe at hq
  split at hq
  · rename_i b hb
    cases (Option.some.inj hq)
    obtain ⟨h1, h2⟩ := scal_of rv ru hb
    refine .inl ⟨h1, ?_⟩
    rw [← h2]
    exact w.val ex (.bl _) (by decide)
  · split at hq
    · rename_i hf
      cases (Option.some.inj hq)
      exact .inr ⟨_, _, rv.dp ex hf.1, ru.dp ex hf.2, hf.1, hf.2, w.val ex (.bl _) (by decide)⟩
    · cases hq
theorem pk_eq (hu : X.A.units + 64 < cLine) (ha : PE X a (tK X.K x .bw f)) (hb : PE X b (tK X.K x .bw g)) : PE X (.Compare a [.Eq] [b] pos) (tK X.K x .fz (eOp dEq f g)) := pk_cmp (op_eq.or (op_eqD hu)) op2_eq nox_eq (nomark _) ha hb
theorem pk_ne (hu : X.A.units + 64 < cLine) (ha : PE X a (tK X.K x .bw f)) (hb : PE X b (tK X.K x .bw g)) : PE X (.Compare a [.NotEq] [b] pos) (tK X.K x .fz (eOp dNe f g)) := pk_cmp (op_ne.or (op_neD hu)) op2_ne nox_ne (nomark _) ha hb
/-- in a list -/
def dIn (d e : D) : EM D := match e with
  | .lst es => if fit d = true ∧ fit (.lst es) = true then ok (.bl ((pyL es).any fun z => PyData.eqv z (py d))) else none
  | _ => none
def dNin (d e : D) : EM D := match e with
  | .lst es => if fit d = true ∧ fit (.lst es) = true then ok (.bl (!(pyL es).any fun z => PyData.eqv z (py d))) else none
  | _ => none
theorem nox_in : NoX dIn := fun d e y q => by
  unfold dIn at q
  split at q
  · split at q <;> cases q
  · cases q
theorem nox_nin : NoX dNin := fun d e y q => by
  unfold dNin at q
  split at q
  · split at q <;> cases q
  · cases q
theorem op2_in : Op2 X.K x .fz (rInD X.K) dIn := fun F H σ v u d e q Q ex rv ru hq w => by
  unfold dIn at hq
  split at hq
  · split at hq
    · rename_i hf
      cases (Option.some.inj hq)
      exact ⟨_, _, rv.dp ex hf.1, by have := ru.dp ex hf.2; unfold py at this; exact this, hf.1, by have := hf.2; unfold fit py at this; exact this, w.val ex (.bl _) (by decide)⟩
    · cases hq
  · cases hq
theorem op2_nin : Op2 X.K x .fz (rNotInD X.K) dNin := fun F H σ v u d e q Q ex rv ru hq w => by
  unfold dNin at hq
  split at hq
  · split at hq
    · rename_i hf
      cases (Option.some.inj hq)
      exact ⟨_, _, rv.dp ex hf.1, by have := ru.dp ex hf.2; unfold py at this; exact this, hf.1, by have := hf.2; unfold fit py at this; exact this, w.val ex (.bl _) (by decide)⟩
    · cases hq
  · cases hq
theorem pk_in (hu : X.A.units + 65 < cLine) (hm : behindInMarks .In b = false) (ha : PE X a (tK X.K x .bw f)) (hb : PE X b (tK X.K x .bw g)) : PE X (.Compare a [.In] [b] pos) (tK X.K x .fz (eOp dIn f g)) := pk_cmp (op_inD hu) op2_in nox_in hm ha hb
theorem pk_nin (hu : X.A.units + 65 < cLine) (hm : behindInMarks .NotIn b = false) (ha : PE X a (tK X.K x .bw f)) (hb : PE X b (tK X.K x .bw g)) : PE X (.Compare a [.NotIn] [b] pos) (tK X.K x .fz (eOp dNin f g)) := pk_cmp (op_notInD hu) op2_nin nox_nin hm ha hb
/-- is None -/
def isNon : D → Bool
  | .non => true
  | _ => false
def dIsN (d e : D) : EM D := match e with
  | .non => ok (.bl (isNon d))
  | _ => none
def dNotN (d e : D) : EM D := match e with
  | .non => ok (.bl (!isNon d))
  | _ => none
theorem rk_isNon {K : PySem.W.Frag} {A : Ad} {F H H0 : Hp} {v : V} {d : D} (rv : RK K A .bw F H0 H v d) : decide (v = .non) = isNon d := by
  rcases rv with h | ⟨l, vs, ds, e1, e2, _⟩
  · cases h <;> simp [isNon]
  · subst e1 e2
    simp [isNon]
theorem pk_isN (ha : PE X a (tK X.K x .bw f)) (hb : PE X b (tK X.K x .bw g)) : PE X (.Compare a [.Is] [b] pos) (tK X.K x .fz (eOp dIsN f g)) := pk_cmp op_isN (fun F H σ v u d e q Q ex rv ru hq w => by
  unfold dIsN at hq
  split at hq
  · cases (Option.some.inj hq)
    refine ⟨rk_non ru, ?_⟩
    rw [rk_isNon rv]
    exact w.val ex (.bl _) (by decide)
  · cases hq) (fun d e y q => by
  unfold dIsN at q
  split at q <;> cases q) (nomark _) ha hb
theorem pk_notN (ha : PE X a (tK X.K x .bw f)) (hb : PE X b (tK X.K x .bw g)) : PE X (.Compare a [.IsNot] [b] pos) (tK X.K x .fz (eOp dNotN f g)) := pk_cmp op_notN (fun F H σ v u d e q Q ex rv ru hq w => by
  unfold dNotN at hq
  split at hq
  · cases (Option.some.inj hq)
    refine ⟨rk_non ru, ?_⟩
    rw [rk_isNon rv]
    exact w.val ex (.bl _) (by decide)
  · cases hq) (fun d e y q => by
  unfold dNotN at q
  split at q <;> cases q) (nomark _) ha hb

/-! ### items -/
def dIx : D → D → EM D
  | .lst xs, .int i => (atI xs i).map .ok
  | .tup xs, .int i => (atI xs i).map .ok
  | .scr ns, .int i => (atI ns i).map fun n => .ok (.int n)
  | .str z, .int i => if z.length ≤ sizeLine then (atI z.cps.toList i).map fun c => .ok (.str ⟨#[c]⟩) else none
  | _, _ => none
theorem nox_ix : NoX dIx := fun d e y q => by
  unfold dIx at q
  split at q
  · simp at q
  · simp at q
  · simp at q
  · split at q
    · simp at q
    · cases q
  · cases q
theorem RepL.atI {K : PySem.W.Frag} {A : Ad} {H : Hp} {vs : List V} {ds : List D} {i : Int} {d : D} (r : RepL K A H vs ds) (h : L2.atI ds i = some d) : ∃ v, L2.atI vs i = some v ∧ Rep K A H v d := by
  unfold L2.atI at h ⊢
  rw [r.length]
  cases e : ixN ds.length i with
  | none => rw [e] at h; cases h
  | some j =>
    rw [e] at h
    exact r.get h
theorem atI_map {α β : Type} (fn : α → β) (xs : List α) (i : Int) : L2.atI (xs.map fn) i = (L2.atI xs i).map fn := by
  unfold L2.atI
  rw [List.length_map]
  cases ixN xs.length i with
  | none => rfl
  | some j => simp
theorem op2_ix : Op2 X.K x .fz (rIx X.K) dIx := fun F H σ v u d e q Q ex rv ru hq w => by
  unfold dIx at hq
  split at hq
  · rename_i xs i
    obtain ⟨p, vs, rfl, h1, q1⟩ := rv.lst ex
    rw [rk_int ru]
    cases ea : L2.atI xs i with
    | none => rw [ea] at hq; cases hq
    | some z =>
      rw [ea] at hq
      cases (Option.some.inj hq)
      obtain ⟨y, hy, ry⟩ := q1.atI ea
      exact .inl ⟨_, _, _, _, rfl, rfl, .of h1, hy, w.val ex ry (by decide)⟩
  · rename_i xs i
    obtain ⟨p, vs, rfl, h1, q1⟩ := rk_tup rv
    rw [rk_int ru]
    cases ea : L2.atI xs i with
    | none => rw [ea] at hq; cases hq
    | some z =>
      rw [ea] at hq
      cases (Option.some.inj hq)
      obtain ⟨y, hy, ry⟩ := q1.atI ea
      exact .inr (.inl ⟨_, _, _, _, rfl, rfl, .of (ex _ _ h1), hy, w.val ex ry (by decide)⟩)
  · rename_i ns i
    obtain ⟨p, rfl, h1⟩ := rk_scr rv
    rw [rk_int ru]
    cases ea : L2.atI ns i with
    | none => rw [ea] at hq; cases hq
    | some z =>
      rw [ea] at hq
      cases (Option.some.inj hq)
      exact .inl ⟨_, _, _, _, rfl, rfl, ex.sqL h1, by rw [atI_map, ea]; rfl, w.val ex (.int _) (by decide)⟩
  · rename_i z i
    split at hq
    · rename_i hz
      rw [rk_str rv, rk_int ru]
      cases ea : L2.atI z.cps.toList i with
      | none => rw [ea] at hq; cases hq
      | some c =>
        rw [ea] at hq
        cases (Option.some.inj hq)
        exact .inr (.inr ⟨_, _, _, rfl, rfl, hz, ea, w.val ex (.str _) (by decide)⟩)
    · cases hq
  · cases hq
theorem pk_ix (hs : PlainIx b) (ha : PE X a (tK X.K x .bw f)) (hb : PE X b (tK X.K x .bw g)) : PE X (.Subscript a b pos) (tK X.K x .fz (eOp dIx f g)) := pk_ixR ix_seq op2_ix nox_ix hs ha hb
end
end Tw
/-! TwC: tests, and or not, chains, displays, slices, attributes, built-ins, methods. -/
namespace Tw
open PySem PySem.Spec PyProof.Rows L2
section
variable {X : Cx} {x : Fx} {f g : Ro → EM D} {k : Kd} {a b c : Expr} {es : List Expr} {pos : Pos} {h h' : D → D → EM D}

/-! ### tests -/
def toB (d : D) : EM Bool := match d with
  | .bl b => ok b
  | _ => none
def bT (f : Ro → EM D) : Ro → EM Bool := fun ρ => bnd (f ρ) toB
theorem toB_nox {d : D} {y : Xn} : toB d ≠ some (.error y) := fun q => by
  unfold toB at q
  split at q <;> cases q
theorem tt_of {σ : L2.St} {H : Hp} {Q : Bool → Hp → Prop} (q : tT X.K x (bT f) σ H Q) : tTest (tK X.K x .bw f) σ H Q := by
  obtain ⟨F, ρ, z, S, e, w⟩ := q
  refine tk_step S e (fun y hy => by subst hy; exact w) fun d F1 H1 v G1 S1 r1 e1 => ?_
  unfold toB at e1
  split at e1
  · cases (Option.some.inj e1)
    exact ⟨_, rk_bl r1, w F1 H1 G1⟩
  · cases e1
/-- an expression whose value is a bool -/
theorem pt_b (ha : PE X a (tK X.K x .bw f)) (he : ∀ whole, isTrue a X.env whole = (do let v ← whole; standAt a.pos; holding [v] (truthy v)) := by intro _; rfl) : PT X a (tT X.K x (bT f)) := pt_wk (pt_val ha he) fun _ _ _ q => tt_of q
theorem pt_c {op : CmpOp} {r : R2} (ho : OpR X (compareOp op) r) (hr : Op2 X.K x .fz r h) (hn : NoX h) (hm : behindInMarks op b = false) (ha : PE X a (tK X.K x .bw f)) (hb : PE X b (tK X.K x .bw g)) : PT X (.Compare a [op] [b] pos) (tT X.K x (bT (eOp h f g))) :=
  pt_wk (pt_cmpR ho ha hb hm) fun σ H Q q => by
    obtain ⟨F, ρ, z, S, e, w⟩ := q
    have q1 : tTest (tK X.K x .bw (eOp h f g)) σ H Q := tt_of ⟨F, ρ, z, S, e, w⟩
    have w1 : tK X.K x .fz (eOp h f g) σ H fun v H1 => ∃ k, v = .bl k ∧ Q k H1 := by
      obtain ⟨F, ρ, z, S, e, w⟩ := q1
      refine ⟨F, ρ, z, S, e, ?_⟩
      cases z with
      | ok d => exact fun F' H' v G r => w F' H' v G (.inl r)
      | error y => exact w
    exact tk_op hr hn w1
theorem pt_lt (ha : PE X a (tK X.K x .bw f)) (hb : PE X b (tK X.K x .bw g)) : PT X (.Compare a [.Lt] [b] pos) (tT X.K x (bT (eOp dLt f g))) := pt_c op_lt op2_B nox_B (nomark _) ha hb
theorem pt_le (ha : PE X a (tK X.K x .bw f)) (hb : PE X b (tK X.K x .bw g)) : PT X (.Compare a [.LtE] [b] pos) (tT X.K x (bT (eOp dLe f g))) := pt_c op_le op2_B nox_B (nomark _) ha hb
theorem pt_gt (ha : PE X a (tK X.K x .bw f)) (hb : PE X b (tK X.K x .bw g)) : PT X (.Compare a [.Gt] [b] pos) (tT X.K x (bT (eOp dGt f g))) := pt_c op_gt op2_B nox_B (nomark _) ha hb
theorem pt_ge (ha : PE X a (tK X.K x .bw f)) (hb : PE X b (tK X.K x .bw g)) : PT X (.Compare a [.GtE] [b] pos) (tT X.K x (bT (eOp dGe f g))) := pt_c op_ge op2_B nox_B (nomark _) ha hb
theorem pt_eq (hu : X.A.units + 64 < cLine) (ha : PE X a (tK X.K x .bw f)) (hb : PE X b (tK X.K x .bw g)) : PT X (.Compare a [.Eq] [b] pos) (tT X.K x (bT (eOp dEq f g))) := pt_c (op_eq.or (op_eqD hu)) op2_eq nox_eq (nomark _) ha hb
theorem pt_ne (hu : X.A.units + 64 < cLine) (ha : PE X a (tK X.K x .bw f)) (hb : PE X b (tK X.K x .bw g)) : PT X (.Compare a [.NotEq] [b] pos) (tT X.K x (bT (eOp dNe f g))) := pt_c (op_ne.or (op_neD hu)) op2_ne nox_ne (nomark _) ha hb
theorem pt_in (hu : X.A.units + 65 < cLine) (hm : behindInMarks .In b = false) (ha : PE X a (tK X.K x .bw f)) (hb : PE X b (tK X.K x .bw g)) : PT X (.Compare a [.In] [b] pos) (tT X.K x (bT (eOp dIn f g))) := pt_c (op_inD hu) op2_in nox_in hm ha hb
theorem pt_nin (hu : X.A.units + 65 < cLine) (hm : behindInMarks .NotIn b = false) (ha : PE X a (tK X.K x .bw f)) (hb : PE X b (tK X.K x .bw g)) : PT X (.Compare a [.NotIn] [b] pos) (tT X.K x (bT (eOp dNin f g))) := pt_c (op_notInD hu) op2_nin nox_nin hm ha hb
theorem op2_isN : Op2 X.K x .fz (fun v u H Q => u = .non ∧ Q (.bl (decide (v = .non))) H) dIsN := fun F H σ v u d e q Q ex rv ru hq w => by
  unfold dIsN at hq
  split at hq
  · cases (Option.some.inj hq)
    refine ⟨rk_non ru, ?_⟩
    rw [rk_isNon rv]
    exact w.val ex (.bl _) (by decide)
  · cases hq
theorem op2_notN : Op2 X.K x .fz (fun v u H Q => u = .non ∧ Q (.bl (!decide (v = .non))) H) dNotN := fun F H σ v u d e q Q ex rv ru hq w => by
  unfold dNotN at hq
  split at hq
  · cases (Option.some.inj hq)
    refine ⟨rk_non ru, ?_⟩
    rw [rk_isNon rv]
    exact w.val ex (.bl _) (by decide)
  · cases hq
theorem nox_isN : NoX dIsN := fun d e y q => by
  unfold dIsN at q
  split at q <;> cases q
theorem nox_notN : NoX dNotN := fun d e y q => by
  unfold dNotN at q
  split at q <;> cases q
theorem pt_isN (ha : PE X a (tK X.K x .bw f)) (hb : PE X b (tK X.K x .bw g)) : PT X (.Compare a [.Is] [b] pos) (tT X.K x (bT (eOp dIsN f g))) := pt_c op_isN op2_isN nox_isN (nomark _) ha hb
theorem pt_notN (ha : PE X a (tK X.K x .bw f)) (hb : PE X b (tK X.K x .bw g)) : PT X (.Compare a [.IsNot] [b] pos) (tT X.K x (bT (eOp dNotN f g))) := pt_c op_notN op2_notN nox_notN (nomark _) ha hb

/-! ### and, or, not as tests -/
variable {p q : Ro → EM Bool}
def bAnd (p q : Ro → EM Bool) : Ro → EM Bool := fun ρ => bnd (p ρ) fun z => if z = true then q ρ else ok false
def bOr (p q : Ro → EM Bool) : Ro → EM Bool := fun ρ => bnd (p ρ) fun z => if z = true then ok true else q ρ
def bNot (p : Ro → EM Bool) : Ro → EM Bool := fun ρ => bnd (p ρ) fun z => ok (!z)
theorem pkw_and1 (ha : PT X a (tT X.K x p)) : PW X (.BoolOp .And [a] pos) (tT X.K x p) := pw_and1 ha
theorem pkw_or1 (ha : PT X a (tT X.K x p)) : PW X (.BoolOp .Or [a] pos) (tT X.K x p) := pw_or1 ha
theorem WdT.grow {K : PySem.W.Frag} {r : Except Xn Bool} {F H F' H' : Hp} {σ : L2.St} {Q : Bool → Hp → Prop} (G : Grow F H F' H') (w : WdT K x r F H σ Q) : WdT K x r F' H' σ Q := by
  cases r with
  | ok b => exact fun F2 H2 G2 => w F2 H2 (G.trans G2)
  | error y => exact Wx.grow (K := K) G w
theorem pkw_and (ha : PT X a (tT X.K x p)) (hb : PW X (.BoolOp .And (b :: es) pos) (tT X.K x q)) : PW X (.BoolOp .And (a :: b :: es) pos) (tT X.K x (bAnd p q)) := pw_wk (pw_and ha hb) fun σ H Q ⟨F, ρ, r, S, e, w⟩ =>
  tt_step S e (fun y hy => by subst hy; exact w) fun z F1 H1 G1 S1 e1 => by
    cases z with
    | true => exact ⟨F1, ρ, r, S1, by simpa using e1, WdT.grow (K := X.K) G1 w⟩
    | false =>
      cases (Option.some.inj e1)
      exact w F1 H1 G1
theorem pkw_or (ha : PT X a (tT X.K x p)) (hb : PW X (.BoolOp .Or (b :: es) pos) (tT X.K x q)) : PW X (.BoolOp .Or (a :: b :: es) pos) (tT X.K x (bOr p q)) := pw_wk (pw_or ha hb) fun σ H Q ⟨F, ρ, r, S, e, w⟩ =>
  tt_step S e (fun y hy => by subst hy; exact w) fun z F1 H1 G1 S1 e1 => by
    cases z with
    | false => exact ⟨F1, ρ, r, S1, by simpa using e1, WdT.grow (K := X.K) G1 w⟩
    | true =>
      cases (Option.some.inj e1)
      exact w F1 H1 G1
theorem pkt_not (ha : PT X a (tT X.K x p)) : PT X (.UnaryOp .Not a pos) (tT X.K x (bNot p)) := pt_wk (pt_not ha) fun σ H Q ⟨F, ρ, r, S, e, w⟩ =>
  tt_step S e (fun y hy => by subst hy; exact w) fun z F1 H1 G1 S1 e1 => by
    cases (Option.some.inj e1)
    exact w F1 H1 G1
/-! .. as values -/
def eAnd (f g : Ro → EM D) : Ro → EM D := fun ρ => bnd (f ρ) fun d => bnd (toB d) fun z => if z = true then g ρ else ok (.bl false)
def eOr (f g : Ro → EM D) : Ro → EM D := fun ρ => bnd (f ρ) fun d => bnd (toB d) fun z => if z = true then ok (.bl true) else g ρ
def eNot (f : Ro → EM D) : Ro → EM D := fun ρ => bnd (f ρ) fun d => bnd (toB d) fun z => ok (.bl (!z))
theorem pk_one {op} {t : TE} (h : PE X a t) : PE X (.BoolOp op [a] pos) t := pe_one h
theorem toB_some {d : D} {β : Type} {g : Bool → EM β} {r : Except Xn β} (e : bnd (toB d) g = some r) : ∃ z, d = .bl z ∧ g z = some r := by
  unfold toB at e
  split at e
  · exact ⟨_, rfl, e⟩
  · cases e
theorem pk_and2 (ha : PE X a (tK X.K x .bw f)) (hb : PE X (.BoolOp .And (b :: es) pos) (tK X.K x .fz g)) : PE X (.BoolOp .And (a :: b :: es) pos) (tK X.K x .fz (eAnd f g)) := pe_wk (pe_and ha hb) fun σ H Q ⟨F, ρ, r, S, e, w⟩ =>
  tk_step S e w.x fun d F1 H1 v G1 S1 r1 e1 => by
    obtain ⟨z, rfl, e2⟩ := toB_some e1
    refine ⟨z, rk_bl r1, ?_⟩
    cases z with
    | true => exact ⟨F1, ρ, r, S1, by simpa using e2, w.grow G1⟩
    | false =>
      cases (Option.some.inj e2)
      exact (w.grow G1).val S1.fh (.bl _) (by decide)
theorem pk_or2 (ha : PE X a (tK X.K x .bw f)) (hb : PE X (.BoolOp .Or (b :: es) pos) (tK X.K x .fz g)) : PE X (.BoolOp .Or (a :: b :: es) pos) (tK X.K x .fz (eOr f g)) := pe_wk (pe_or ha hb) fun σ H Q ⟨F, ρ, r, S, e, w⟩ =>
  tk_step S e w.x fun d F1 H1 v G1 S1 r1 e1 => by
    obtain ⟨z, rfl, e2⟩ := toB_some e1
    refine ⟨z, rk_bl r1, ?_⟩
    cases z with
    | false => exact ⟨F1, ρ, r, S1, by simpa using e2, w.grow G1⟩
    | true =>
      cases (Option.some.inj e2)
      exact (w.grow G1).val S1.fh (.bl _) (by decide)
theorem pk_not (ha : PE X a (tK X.K x .bw f)) : PE X (.UnaryOp .Not a pos) (tK X.K x .fz (eNot f)) := pe_wk (pe_not ha) fun σ H Q ⟨F, ρ, r, S, e, w⟩ =>
  tk_step S e w.x fun d F1 H1 v G1 S1 r1 e1 => by
    obtain ⟨z, rfl, e2⟩ := toB_some e1
    cases (Option.some.inj e2)
    exact ⟨z, rk_bl r1, (w.grow G1).val S1.fh (.bl _) (by decide)⟩
def eIf (p : Ro → EM Bool) (f g : Ro → EM D) : Ro → EM D := fun ρ => bnd (p ρ) fun z => if z = true then f ρ else g ρ
theorem pk_if (hc : PT X c (tT X.K x p)) (ha : PE X a (tK X.K x k f)) (hb : PE X b (tK X.K x k g)) : PE X (.IfExp c a b pos) (tK X.K x k (eIf p f g)) := pe_wk (pe_ifExp hc ha hb) fun σ H Q ⟨F, ρ, r, S, e, w⟩ =>
  tt_step S e w.x fun z F1 H1 G1 S1 e1 => by
    cases z with
    | true => exact ⟨F1, ρ, r, S1, by simpa using e1, w.grow G1⟩
    | false => exact ⟨F1, ρ, r, S1, by simpa using e1, w.grow G1⟩
/-! ### chains -/
def eChain (h h' : D → D → EM D) (f g l : Ro → EM D) : Ro → EM D := fun ρ => bnd (f ρ) fun d => bnd (g ρ) fun e => bnd (h d e) fun z => bnd (toB z) fun z => if z = true then bnd (l ρ) fun w => h' e w else ok (.bl false)
theorem pk_chain {op op' : CmpOp} {r r' : R2} {l : Ro → EM D} (ho : OpR X (compareOp op) r) (ho' : OpR X (compareOp op') r') (hr : Op2 X.K x .fz r h) (hr' : Op2 X.K x .fz r' h') (hn : NoX h) (hn' : NoX h') (ha : PE X a (tK X.K x .bw f)) (hb : PE X b (tK X.K x .bw g)) (hc : PE X c (tK X.K x .bw l))
    (hm : lastMarks [op, op'] [b, c] = false := by with_unfolding_all rfl) : PE X (.Compare a [op, op'] [b, c] pos) (tK X.K x .fz (eChain h h' f g l)) := pe_wk (pe_chain ho ho' ha hb hc hm) fun σ H Q ⟨F, ρ, q, S, e, w⟩ =>
  tk_step S e w.x fun d F1 H1 v G1 S1 r1 e1 => tk_step S1 e1 (fun y hy => Wx.grow (K := X.K) G1 (w.x y hy)) fun d2 F2 H2 u G2 S2 r2 e2 => by
    cases eh : h d d2 with
    | none => rw [eh] at e2; cases e2
    | some z =>
      rw [eh] at e2
      cases z with
      | error y => exact absurd eh (hn _ _ _)
      | ok z =>
        obtain ⟨b, rfl, e3⟩ := toB_some e2
        refine hr F2 H2 σ v u d d2 (.bl b) _ S2.fh (r1.grow G2) r2 eh fun F3 H3 w3 G3 r3 => ⟨b, rk_bl (H0 := H3) (RK.bw_of (k := .fz) (H0 := H3) (H := H3) r3), ?_⟩
        have S3 := S2.grow G3
        have G := (G1.trans G2).trans G3
        cases b with
        | true =>
          refine iteT ?_
          simp only [if_true] at e3
          refine tk_step S3 e3 (fun y hy => Wx.grow (K := X.K) G (w.x y hy)) fun d4 F4 H4 v4 G4 S4 r4 e4 => ?_
          cases q with
          | error y => exact absurd e4 (hn' _ _ _)
          | ok q => exact hr' F4 H4 σ u v4 d2 d4 q Q S4.fh ((r2.grow G3).grow G4) r4 e4 (w.grow (G.trans G4))
        | false =>
          refine iteF ?_
          simp only [Bool.false_eq_true, if_false] at e3
          cases (Option.some.inj e3)
          exact (w.grow G).val S3.fh (.bl _) (by decide)
theorem pk_le_le {l : Ro → EM D} (ha : PE X a (tK X.K x .bw f)) (hb : PE X b (tK X.K x .bw g)) (hc : PE X c (tK X.K x .bw l)) (hm : lastMarks [.LtE, .LtE] [b, c] = false := by with_unfolding_all rfl) : PE X (.Compare a [.LtE, .LtE] [b, c] pos) (tK X.K x .fz (eChain dLe dLe f g l)) := pk_chain op_le op_le op2_B op2_B nox_B nox_B ha hb hc hm
theorem pt_chainR {op op' : CmpOp} {r r' : R2} {l : Ro → EM D} (ho : OpR X (compareOp op) r) (ho' : OpR X (compareOp op') r') (hr : Op2 X.K x .fz r h) (hr' : Op2 X.K x .fz r' h') (hn : NoX h) (hn' : NoX h') (ha : PE X a (tK X.K x .bw f)) (hb : PE X b (tK X.K x .bw g)) (hc : PE X c (tK X.K x .bw l))
    (hm : lastMarks [op, op'] [b, c] = false := by with_unfolding_all rfl) : PT X (.Compare a [op, op'] [b, c] pos) (tT X.K x (bT (eChain h h' f g l))) := pt_wk (pt_chain ho ho' ha hb hc hm) fun σ H Q q => by
  have q1 : tTest (tK X.K x .bw (eChain h h' f g l)) σ H Q := tt_of q
  have q2 : tK X.K x .fz (eChain h h' f g l) σ H fun v H1 => ∃ k, v = .bl k ∧ Q k H1 := by
    obtain ⟨F, ρ, z, S, e, w⟩ := q1
    refine ⟨F, ρ, z, S, e, ?_⟩
    cases z with
    | ok d => exact fun F' H' v G r => w F' H' v G (.inl r)
    | error y => exact w
  obtain ⟨F, ρ, q, S, e, w⟩ := q2
  exact tk_step S e w.x fun d F1 H1 v G1 S1 r1 e1 => tk_step S1 e1 (fun y hy => Wx.grow (K := X.K) G1 (w.x y hy)) fun d2 F2 H2 u G2 S2 r2 e2 => by
    cases eh : h d d2 with
    | none => rw [eh] at e2; cases e2
    | some z =>
      rw [eh] at e2
      cases z with
      | error y => exact absurd eh (hn _ _ _)
      | ok z =>
        obtain ⟨b, rfl, e3⟩ := toB_some e2
        refine hr F2 H2 σ v u d d2 (.bl b) _ S2.fh (r1.grow G2) r2 eh fun F3 H3 w3 G3 r3 => ⟨b, rk_bl (H0 := H3) (RK.bw_of (k := .fz) (H0 := H3) (H := H3) r3), ?_⟩
        have S3 := S2.grow G3
        have G := (G1.trans G2).trans G3
        cases b with
        | true =>
          refine iteT ?_
          simp only [if_true] at e3
          refine tk_step S3 e3 (fun y hy => Wx.grow (K := X.K) G (w.x y hy)) fun d4 F4 H4 v4 G4 S4 r4 e4 => ?_
          cases q with
          | error y => exact absurd e4 (hn' _ _ _)
          | ok q => exact hr' F4 H4 σ u v4 d2 d4 q _ S4.fh ((r2.grow G3).grow G4) r4 e4 (w.grow (G.trans G4))
        | false =>
          refine iteF ?_
          simp only [Bool.false_eq_true, if_false] at e3
          cases (Option.some.inj e3)
          exact (w.grow G).val (v := .bl false) S3.fh (.bl _) (by decide)

theorem pt_le_le {l : Ro → EM D} (ha : PE X a (tK X.K x .bw f)) (hb : PE X b (tK X.K x .bw g)) (hc : PE X c (tK X.K x .bw l)) (hm : lastMarks [.LtE, .LtE] [b, c] = false := by with_unfolding_all rfl) : PT X (.Compare a [.LtE, .LtE] [b, c] pos) (tT X.K x (bT (eChain dLe dLe f g l))) := pt_chainR op_le op_le op2_B op2_B nox_B nox_B ha hb hc hm

/-! ### displays -/
def eTup (fs : Ro → EM (List D)) : Ro → EM D := fun ρ => bnd (fs ρ) fun ds => if ds.length ≤ sizeLine then ok (.tup ds) else none
def eLst (fs : Ro → EM (List D)) : Ro → EM D := fun ρ => bnd (fs ρ) fun ds => if ds.length ≤ sizeLine then ok (.lst ds) else none
theorem RKL.length {K : PySem.W.Frag} {A : Ad} {k : Kd} {F H H' : Hp} : ∀ {vs : List V} {ds : List D}, RKL K A k F H H' vs ds → vs.length = ds.length
  | _, _, .nil => rfl
  | _, _, .cons _ r => by rw [List.length_cons, List.length_cons, RKL.length r]
theorem pk_tup {fs : Ro → EM (List D)} {x1} (ha : PA X es (tA X.K x .fz fs)) : PE X (.Tuple es x1 pos) (tK X.K x .fz (eTup fs)) := pe_wk (pe_tup ha) fun σ H Q ⟨F, ρ, r, S, e, w⟩ =>
  ta_step S e w.x fun ds F1 H1 vs G1 S1 r1 e1 => by
    split at e1
    · rename_i hz
      cases (Option.some.inj e1)
      exact ⟨by rw [r1.length]; exact hz, (w.grow G1).newT S1.fh r1.repL (by decide)⟩
    · cases e1
theorem pk_lst {fs : Ro → EM (List D)} (ha : PA X es (tA X.K x .fz fs)) : PE X (.List es pos) (tK X.K x k (eLst fs)) := pe_wk (pe_lst ha) fun σ H Q ⟨F, ρ, r, S, e, w⟩ =>
  ta_step S e w.x fun ds F1 H1 vs G1 S1 r1 e1 => by
    split at e1
    · rename_i hz
      cases (Option.some.inj e1)
      exact ⟨by rw [r1.length]; exact hz, (w.grow G1).newL S1.fh r1.repL⟩
    · cases e1

/-! ### slices -/
def cutD {α : Type} (xs : List α) (lo hi : Option Int) : List α := (xs.drop (HT.sIx xs.length 0 lo)).take (HT.sIx xs.length xs.length hi - HT.sIx xs.length 0 lo)
theorem RepL.cut {K : PySem.W.Frag} {A : Ad} {H : Hp} {vs : List V} {ds : List D} (r : RepL K A H vs ds) (lo hi : Option Int) : RepL K A H (cutV vs lo hi) (cutD ds lo hi) := by
  unfold cutV cutD
  rw [r.length]
  exact (r.drop _).take _
def WdP (K : PySem.W.Frag) (x : Fx) (r : Except Xn (Option Int)) (F H : Hp) (σ : L2.St) (Q : Option Int → Hp → Prop) : Prop := match r with
  | .ok o => ∀ F' H', Grow F H F' H' → Q o H'
  | .error e => Wx K x F H σ e
def tP (K : PySem.W.Frag) (x : Fx) (f : Ro → EM (Option Int)) : TO := fun σ H Q => ∃ F ρ r, SR K x.A x.T x.B x.F0 F H σ ρ ∧ f ρ = some r ∧ WdP K x r F H σ Q
def oNone : Ro → EM (Option Int) := fun _ => ok none
def toI (d : D) : EM (Option Int) := match d with
  | .int i => ok (some i)
  | _ => none
def oSome (f : Ro → EM D) : Ro → EM (Option Int) := fun ρ => bnd (f ρ) toI
theorem po_wk {o : Option Expr} {t t' : TO} (h : PO X o t) (w : ∀ σ H Q, t' σ H Q → t σ H Q) : PO X o t' := ⟨fun pins s σ H Q I q => h.run pins s σ H Q I (w σ H Q q)⟩
theorem pkp_none : PO X none (tP X.K x oNone) := po_wk po_none fun σ H Q ⟨F, ρ, r, S, e, w⟩ => by
  cases (Option.some.inj e)
  exact w F H (.refl S.fh)
theorem pkp_some (ha : PE X a (tK X.K x .bw f)) : PO X (some a) (tP X.K x (oSome f)) := po_wk (po_some ha) fun σ H Q ⟨F, ρ, r, S, e, w⟩ =>
  tk_step S e (fun y hy => by subst hy; exact w) fun d F1 H1 v G1 S1 r1 e1 => by
    unfold toI at e1
    split at e1
    · cases (Option.some.inj e1)
      exact ⟨_, rk_int r1, w F1 H1 G1⟩
    · cases e1
theorem tp_step {fo : Ro → EM (Option Int)} {F H : Hp} {σ : L2.St} {ρ : Ro} {β : Type} {g : Option Int → EM β} {r : Except Xn β} {Q : Option Int → Hp → Prop} (S : SR X.K x.A x.T x.B x.F0 F H σ ρ) (e : bnd (fo ρ) g = some r) (hx : ∀ y, r = .error y → Wx X.K x F H σ y)
    (hk : ∀ b F' H', Grow F H F' H' → SR X.K x.A x.T x.B x.F0 F' H' σ ρ → g b = some r → Q b H') : tP X.K x fo σ H Q := by
  cases ef : fo ρ with
  | none => rw [ef] at e; cases e
  | some q =>
    rw [ef] at e
    cases q with
    | error y =>
      have e' : (Except.error y : Except Xn β) = r := Option.some.inj e
      exact ⟨F, ρ, .error y, S, ef, hx y e'.symm⟩
    | ok d => exact ⟨F, ρ, .ok d, S, ef, fun F' H' G => hk d F' H' G (S.grow G) e⟩
def dSlL (d : D) (lo hi : Option Int) : EM D := match d with
  | .lst xs => ok (.lst (cutD xs lo hi))
  | .scr ns => ok (.lst ((cutD ns lo hi).map D.int))
  | _ => none
def dSlT (d : D) (lo hi : Option Int) : EM D := match d with
  | .tup xs => ok (.tup (cutD xs lo hi))
  | _ => none
def eSl (h : D → Option Int → Option Int → EM D) (f : Ro → EM D) (fl fh : Ro → EM (Option Int)) : Ro → EM D := fun ρ => bnd (f ρ) fun d => bnd (fl ρ) fun lo => bnd (fh ρ) fun hi => h d lo hi
theorem cutV_ints (ns : List Int) (lo hi : Option Int) : cutV (ns.map V.int) lo hi = (cutD ns lo hi).map V.int := by
  unfold cutV cutD
  rw [List.length_map, List.map_take, List.map_drop]
theorem pk_slL {lo hi : Option Expr} {p2 : Pos} {fl fh : Ro → EM (Option Int)} (ha : PE X a (tK X.K x .bw f)) (hl : PO X lo (tP X.K x fl)) (hh : PO X hi (tP X.K x fh)) : PE X (.Subscript a (.Slice lo hi none p2) pos) (tK X.K x k (eSl dSlL f fl fh)) := pe_wk (pe_slice sl_list ha hl hh) fun σ H Q ⟨F, ρ, r, S, e, w⟩ =>
  tk_step S e w.x fun d F1 H1 v G1 S1 r1 e1 => tp_step S1 e1 (fun y hy => Wx.grow (K := X.K) G1 (w.x y hy)) fun o1 F2 H2 G2 S2 e2 => tp_step S2 e2 (fun y hy => Wx.grow (K := X.K) (G1.trans G2) (w.x y hy)) fun o2 F3 H3 G3 S3 e3 => by
    have G := (G1.trans G2).trans G3
    have r3 := (r1.grow G2).grow G3
    unfold dSlL at e3
    split at e3
    · cases (Option.some.inj e3)
      obtain ⟨p, vs, rfl, h1, q1⟩ := r3.lst S3.fh
      exact ⟨_, _, rfl, .of h1, (w.grow G).newL S3.fh (q1.cut _ _)⟩
    · cases (Option.some.inj e3)
      obtain ⟨p, rfl, h1⟩ := rk_scr r3
      refine ⟨_, _, rfl, S3.fh.sqL h1, ?_⟩
      rw [cutV_ints]
      exact (w.grow G).newL S3.fh (.ints _)
    · cases e3
theorem pk_slT {lo hi : Option Expr} {p2 : Pos} {fl fh : Ro → EM (Option Int)} (ha : PE X a (tK X.K x .bw f)) (hl : PO X lo (tP X.K x fl)) (hh : PO X hi (tP X.K x fh)) : PE X (.Subscript a (.Slice lo hi none p2) pos) (tK X.K x .fz (eSl dSlT f fl fh)) := pe_wk (pe_slice sl_tupA ha hl hh) fun σ H Q ⟨F, ρ, r, S, e, w⟩ =>
  tk_step S e w.x fun d F1 H1 v G1 S1 r1 e1 => tp_step S1 e1 (fun y hy => Wx.grow (K := X.K) G1 (w.x y hy)) fun o1 F2 H2 G2 S2 e2 => tp_step S2 e2 (fun y hy => Wx.grow (K := X.K) (G1.trans G2) (w.x y hy)) fun o2 F3 H3 G3 S3 e3 => by
    have G := (G1.trans G2).trans G3
    have r3 := (r1.grow G2).grow G3
    unfold dSlT at e3
    split at e3
    · cases (Option.some.inj e3)
      obtain ⟨p, vs, rfl, h1, q1⟩ := rk_tup r3
      refine ⟨_, _, rfl, .of (S3.fh _ _ h1), fun hc => ?_, fun _ => (w.grow G).newT S3.fh (q1.cut _ _) (by decide)⟩
      refine (w.grow G).val S3.fh (.tup h1 ?_) (by decide)
      have := q1.cut o1 o2
      unfold cutV at this
      rw [hc.1, hc.2, List.drop_zero, Nat.sub_zero, List.take_length] at this
      exact this
    · cases e3
def dRevL (d : D) : EM D := match d with
  | .lst xs => ok (.lst xs.reverse)
  | _ => none
def e1 (h : D → EM D) (f : Ro → EM D) : Ro → EM D := fun ρ => bnd (f ρ) h
theorem pk_rev {kk : Nat} {p1 p2 p3 : Pos} (ha : PE X a (tK X.K x .bw f)) : PE X (.Subscript a (.Slice none none (some (.UnaryOp .USub (.Constant (.int 1) kk p1) p2)) p3) pos) (tK X.K x k (e1 dRevL f)) := pe_wk (pe_revL ha) fun σ H Q ⟨F, ρ, r, S, e, w⟩ =>
  tk_step S e w.x fun d F1 H1 v G1 S1 r1 e1 => by
    unfold dRevL at e1
    split at e1
    · cases (Option.some.inj e1)
      obtain ⟨p, vs, rfl, h1, q1⟩ := r1.lst S1.fh
      exact ⟨_, _, rfl, .of h1, (w.grow G1).newL S1.fh q1.rev⟩
    · cases e1
/-- -n -/
def dNeg (d : D) : EM D := match d with
  | .int i => ok (.int (-i))
  | _ => none
theorem pk_neg (ha : PE X a (tK X.K x .bw f)) : PE X (.UnaryOp .USub a pos) (tK X.K x .fz (e1 dNeg f)) := pe_wk (pe_un un_neg ha) fun σ H Q ⟨F, ρ, r, S, e, w⟩ =>
  tk_step S e w.x fun d F1 H1 v G1 S1 r1 e1 => by
    unfold dNeg at e1
    split at e1
    · cases (Option.some.inj e1)
      exact ⟨_, rk_int r1, (w.grow G1).val S1.fh (.int _) (by decide)⟩
    · cases e1

/-! ### attributes -/
/-- the own classes' facts -/
structure ClsF (K : PySem.W.Frag) (A : Ad) : Prop where
  cls : ∀ c, A.has c = true → Cls K (A.cl c)
  no : ∀ c n, A.has c = true → n ∈ c.names → NoAttr K (A.cl c) n
  ca : ∀ c, A.has c = true → PySem.W.findIn K (.ref (A.cl c)) "__class__" = some (some (.builtin "object.__class__"))
  mro : ∀ c, A.has c = true → PySem.W.mroIn K (A.cl c) (.type "object") = some true
  sp : PySem.W.specialIn K (.builtin "object.__class__") "__get__" = some (some (.builtin "getset_descriptor.__get__"))
  tk : PySem.W.takesIn K (.builtin "object.__class__") = some true
def dFld (n : Str) (d : D) : EM D := match d with
  | .obj c ds => ((c.names.zip ds).lookup n).map .ok
  | _ => none
theorem zip_lookup {K : PySem.W.Frag} {A : Ad} {H : Hp} {n : Str} {d : D} : ∀ {ns : List Str} {vs : List V} {ds : List D}, RepL K A H vs ds → (ns.zip ds).lookup n = some d → (∃ v, (ns.zip vs).lookup n = some v ∧ Rep K A H v d) ∧ n ∈ ns
  | [], _, _, _, e => by simp at e
  | m :: ns, _, _, .nil, e => by simp at e
  | m :: ns, _, _, .cons h r, e => by
    rw [List.zip_cons_cons, List.lookup_cons] at e
    rw [List.zip_cons_cons, List.lookup_cons]
    cases q : n == m with
    | true =>
      rw [q] at e
      cases (Option.some.inj e)
      exact ⟨⟨_, rfl, h⟩, by rw [beq_iff_eq.mp q]; exact List.mem_cons_self⟩
    | false =>
      rw [q] at e
      obtain ⟨h1, h2⟩ := zip_lookup r e
      exact ⟨h1, List.mem_cons_of_mem _ h2⟩
theorem rk_obj {K : PySem.W.Frag} {A : Ad} {F H H0 : Hp} {v : V} {c : Cl} {ds : List D} (h : RK K A .bw F H0 H v (.obj c ds)) : ∃ a dx vs, v = .ref a ∧ A.has c = true ∧ F a = some (.ins (A.cl c) dx (c.names.zip vs)) ∧ RepL K A F vs ds := by
  cases (RK.rep h fun _ z => by cases z) with
  | obj g h1 l r => exact ⟨_, _, _, rfl, g, h1, r⟩
theorem pk_fld {n : Str} (T : ClsF X.K x.A) (ha : PE X a (tK X.K x .bw f)) (hb : attributeBase a n X.env (eval a X.env) = eval a X.env := by rfl) : PE X (.Attribute a n pos) (tK X.K x .fz (e1 (dFld n) f)) := pe_wk (pe_fld ha hb) fun σ H Q ⟨F, ρ, r, S, e, w⟩ =>
  tk_step S e w.x fun d F1 H1 v G1 S1 r1 e1 => by
    unfold dFld at e1
    split at e1
    · rename_i c ds
      obtain ⟨p, dx, vs, rfl, g, h1, q1⟩ := rk_obj r1
      cases el : (c.names.zip ds).lookup n with
      | none => rw [el] at e1; cases e1
      | some d =>
        rw [el] at e1
        cases (Option.some.inj e1)
        obtain ⟨⟨u, hu, ru⟩, hm⟩ := zip_lookup q1 el
        exact ⟨p, _, dx, _, u, rfl, S1.fh _ _ h1, T.cls c g, T.no c n g hm, hu, (w.grow G1).val S1.fh ru (by decide)⟩
    · cases e1
end
end Tw
/-! TwE: defs by data: what a def promises, its body, calls, methods, new objects; built-ins. -/
namespace Tw
open PySem PySem.Spec PyProof.Rows L2

/-! ### calls, at the caller's slots, with defaults -/
section
variable {X : Cx} {CX : CXT} {k : Nat} {f C : Addr} {fd : FuncData} {ps : List Str} {sp : Sp} {E : L2.St → XK} {n m : Str} {p pos apos : Pos} {e o : Expr} {es : List Expr} {ta : TE} {t : TA} {dvs : List V} {ds : List Value}
theorem run_fnG {pins : List (Addr × Obj)} {σ : L2.St} {H : Hp} {s : Shared} {Q : VK} {us : List Value} {vs : List V} (F : FnOk X.prog X.w X.K X.mg X.base CX k f fd ps sp) (hr : Room k X.A) (hb : Binds X.K fd ps ds) (hd : Vals dvs ds) (hx : PassesAt CX X σ (E σ))
    (I : Inv X pins σ H s) (r : Vals vs us) (h : sp (vs ++ dvs) H Q (E σ)) : wpAny (model X.prog X.w) X.A (call (.ref f) us) (EP X pins σ Q) X.xe s := by
  have r2 : Vals (vs ++ dvs) (us ++ ds) := r.append hd
  have hl : (us ++ ds).length = ps.length := by rw [← r2.length]; exact F.len _ _ _ _ h
  refine wpAny_call (codeAny_mono (F.run X.A X.stack s H ⟨us, []⟩ (us ++ ds) (vs ++ dvs) Q (E σ) hr I.env0 (hb s us I.kIn hl) r2 h) fun r s' hq => ?_)
  cases r with
  | error e => exact hx pins H s e s' I hq
  | ok fl =>
    cases fl with
    | ret u => exact I.after hq
    | next => exact False.elim hq
    | brk => exact False.elim hq
    | cont => exact False.elim hq
def tCallG (sp : Sp) (dvs : List V) (E : L2.St → XK) (t : TA) : TE := fun σ H Q => t σ H fun vs H1 => sp (vs ++ dvs) H1 Q (E σ)
theorem pe_callG (F : FnOk X.prog X.w X.K X.mg X.base CX k f fd ps sp) (hr : Room k X.A) (hg : Gl X n) (hm : X.mg n = some (.ref f)) (hk : PySem.W.keepIn X.K (.ref f) = true) (hb : Binds X.K fd ps ds) (hd : Vals dvs ds) (hx : ∀ σ, PassesAt CX X σ (E σ))
    (ha : PA X (e :: es) t) (hdb : (n == ("__debug__" : Str)) = false := by decide) (he : starEach (e :: es) X.env = (false, eval e X.env) :: starEach es X.env := by rfl) (hpl : (backTo pos (starEach es X.env)).any (·.1) = false := by rfl) :
    PE X (.Call (.Name n p) (e :: es) [] pos) (tCallG sp dvs E t) := by
  refine ⟨fun pins s σ H Q I h => ?_⟩
  refine wpAny_Call_Name_kw (ld_glob I hg hm ?_ hdb)
  refine PySem.W.callWith_K (h₀ := X.base) I.ok.mod.kin hk (thn (ha.run pos pins s σ H _ I h) fun us s1 ⟨vs, H1, I1, r, q⟩ => ⟨I1.kIn, ?_⟩) he hpl
  exact run_fnG F hr hb hd (hx σ) I1 r q
def tMethG (C : Addr) (m : Str) (sp : Sp) (dvs : List V) (E : L2.St → XK) (ta : TE) (t : TA) : TE := fun σ H Q => ta σ H fun x H1 => ∃ a dx fs, x = .ref a ∧ H1 a = some (.ins C dx fs) ∧ fs.lookup m = none ∧
  t σ H1 fun vs H2 => sp (x :: (vs ++ dvs)) H2 Q (E σ)
theorem pe_methG {pl : Sem Bool} (he : PE X o ta) (c : Cls X.K C) (hm : Meth X.K C m f) (F : FnOk X.prog X.w X.K X.mg X.base CX k f fd ps sp) (hr : Room k X.A) (hb : Binds X.K fd ps ds) (hd : Vals dvs ds) (hx : ∀ σ, PassesAt CX X σ (E σ)) (ha : PA X (e :: es) t)
    (hst : starEach (e :: es) X.env = (false, eval e X.env) :: starEach es X.env := by rfl) (hpl : (backTo pos (starEach es X.env)).any (·.1) = false := by rfl)
    (ht : eval (.Call (.Attribute o m apos) (e :: es) [] pos) X.env = (do
      let ov ← eval o X.env
      standAt apos.atName
      let (f, first) ← holding [ov] (getMethod ov m pl)
      callWith pos f first (backTo pos (starEach (e :: es) X.env)) (backToKw pos (keywordEach [] X.env))) := by rfl) :
    PE X (.Call (.Attribute o m apos) (e :: es) [] pos) (tMethG C m sp dvs E ta t) := by
  refine ⟨fun pins s σ H Q I h => ?_⟩
  refine PySem.W.methodCall_KW (pl := pl) (thn (he.run pins s σ H _ I h) fun u s1 ⟨x, H1, I1, rx, a, dx, fs, ex, ea, l, q⟩ => ?_) ht
  subst ex
  obtain rfl : u = Value.ref a := rx
  refine getmeth_ok I1 ea c hm l ?_
  refine PySem.W.callWith_K (first := [.ref a]) (h₀ := X.base) I.ok.mod.kin hm.kp (thn (ha.run pos pins s1 σ H1 _ I1 q) fun us s2 ⟨vs, H2, I2, r, q2⟩ => ⟨I2.kIn, ?_⟩) hst hpl
  exact run_fnG (us := .ref a :: us) (vs := .ref a :: vs) F hr hb hd (hx σ) I2 (.cons rfl r) q2
theorem pe_methG0 {pl : Sem Bool} (he : PE X o ta) (c : Cls X.K C) (hm : Meth X.K C m f) (F : FnOk X.prog X.w X.K X.mg X.base CX k f fd ps sp) (hr : Room k X.A) (hb : Binds X.K fd ps ds) (hd : Vals dvs ds) (hx : ∀ σ, PassesAt CX X σ (E σ))
    (ht : eval (.Call (.Attribute o m apos) [] [] pos) X.env = (do
      let ov ← eval o X.env
      standAt apos.atName
      let (f, first) ← holding [ov] (getMethod ov m pl)
      callWith pos f first (backTo pos (starEach [] X.env)) (backToKw pos (keywordEach [] X.env))) := by rfl) :
    PE X (.Call (.Attribute o m apos) [] [] pos) (tMethG C m sp dvs E ta tNil) := by
  refine ⟨fun pins s σ H Q I h => ?_⟩
  refine PySem.W.methodCall_KW (pl := pl) (thn (he.run pins s σ H _ I h) fun u s1 ⟨x, H1, I1, rx, a, dx, fs, ex, ea, l, q⟩ => ?_) ht
  subst ex
  obtain rfl : u = Value.ref a := rx
  refine getmeth_ok I1 ea c hm l ?_
  exact PySem.W.callWith_K0 (first := [.ref a]) I1.kIn hm.kp (run_fnG (us := [.ref a]) (vs := [.ref a]) F hr hb hd (hx σ) I1 (.cons rfl .nil) q)
def tMakeG (C : Addr) (sp : Sp) (dvs : List V) (E : L2.St → XK) (t : TA) : TE := fun σ H Q => t σ H fun vs H1 => ∀ x dx, H1 x = none → H1 dx = none → dx ≠ x →
  sp (.ref x :: (vs ++ dvs)) (upd (upd H1 dx (.own x)) x (.ins C dx [])) (fun v H2 => v = .non ∧ Q (.ref x) H2) (E σ)
theorem run_makeG {pins : List (Addr × Obj)} {σ : L2.St} {H : Hp} {s : Shared} {Q : VK} {us : List Value} {vs : List V} (M : Mk X.K C f) (F : FnOk X.prog X.w X.K X.mg X.base CX k f fd ps sp) (hr : Room (k + 1) X.A) (hb : Binds X.K fd ps ds) (hd : Vals dvs ds)
    (hx : PassesAt CX X σ (E σ)) (I : Inv X pins σ H s) (r : Vals vs us)
    (h : ∀ x dx, H x = none → H dx = none → dx ≠ x → sp (.ref x :: (vs ++ dvs)) (upd (upd H dx (.own x)) x (.ins C dx [])) (fun v H2 => v = .non ∧ Q (.ref x) H2) (E σ)) :
    wpAny (model X.prog X.w) X.A (call (.ref C) us) (EP X pins σ Q) X.xe s := by
  have hq := h (s.heap.objs.size + 1) s.heap.objs.size (I.hok.fresh (Nat.le_succ _)) (I.hok.fresh (Nat.le_refl _)) (Nat.ne_of_lt (Nat.lt_succ_self _))
  have I2 := Inv.made (C := C) I
  have r2 : Vals (V.ref (s.heap.objs.size + 1) :: (vs ++ dvs)) (Value.ref (s.heap.objs.size + 1) :: (us ++ ds)) := .cons rfl (r.append hd)
  have hl : (Value.ref (s.heap.objs.size + 1) :: us ++ ds).length = ps.length := by
    have e := r2.length
    rw [F.len _ _ _ _ hq] at e
    exact e.symm
  refine wpAny_call (make_map (f := f) I.kIn M.makes M.init (beq_iff_eq.mp M.fn) (codeAny_mono (F.run _ X.stack _ _ ⟨Value.ref (s.heap.objs.size + 1) :: us, []⟩ (Value.ref (s.heap.objs.size + 1) :: (us ++ ds)) _ _ (E σ) (hr.make C us [])
    (I2.env0.make C us []) (hb _ (Value.ref (s.heap.objs.size + 1) :: us) I2.kIn hl) r2 hq) fun r s' hq' => ?_))
  cases r with
  | error e => exact hx pins _ _ e s' I2 hq'
  | ok fl =>
    cases fl with
    | ret u =>
      obtain ⟨v, H', I3, rv, ev, q3⟩ := I2.after hq'
      subst ev
      exact ⟨rv, ⟨V.ref (s.heap.objs.size + 1), H', I3, rfl, q3⟩⟩
    | next => exact False.elim hq'
    | brk => exact False.elim hq'
    | cont => exact False.elim hq'
theorem pe_makeG (M : Mk X.K C f) (F : FnOk X.prog X.w X.K X.mg X.base CX k f fd ps sp) (hr : Room (k + 1) X.A) (hg : Gl X n) (hm : X.mg n = some (.ref C)) (hb : Binds X.K fd ps ds) (hd : Vals dvs ds) (hx : ∀ σ, PassesAt CX X σ (E σ))
    (ha : PA X (e :: es) t) (hdb : (n == ("__debug__" : Str)) = false := by decide) (he : starEach (e :: es) X.env = (false, eval e X.env) :: starEach es X.env := by rfl) (hpl : (backTo pos (starEach es X.env)).any (·.1) = false := by rfl) :
    PE X (.Call (.Name n p) (e :: es) [] pos) (tMakeG C sp dvs E t) := by
  refine ⟨fun pins s σ H Q I h => ?_⟩
  refine wpAny_Call_Name_kw (ld_glob I hg hm ?_ hdb)
  refine PySem.W.callWith_K (h₀ := X.base) I.ok.mod.kin M.kp (thn (ha.run pos pins s σ H _ I h) fun us s1 ⟨vs, H1, I1, r, q⟩ => ⟨I1.kIn, ?_⟩) he hpl
  exact run_makeG M F hr hb hd (hx σ) I1 r q
end

/-! ### what a def promises, by data -/
inductive Out where
  | ret (d : D) | reto (ds : List D) | exc (e : Xn)
def WdO (K : PySem.W.Frag) (A : Ad) (o : Out) (F H : Hp) (Q : VK) (E : XK) : Prop := match o with
  | .ret d => ∀ F' H' v, Grow F H F' H' → Rep K A F' v d → Q v H'
  | .reto ds => ∀ F' H' l vs, Grow F H F' H' → H l = none → F' l = none → H' l = some (.lst vs) → RepL K A F' vs ds → Q (.ref l) H'
  | .exc e => ∀ F' H' dd, Grow F H F' H' → XR H' e dd → E (.ref (A.xc e.cl)) dd H'
def spD (K : PySem.W.Frag) (A : Ad) (n : Nat) (m : List D → Option Out) : Sp := fun vs H Q E => ∃ F ds o, Ex F H ∧ RepL K A F vs ds ∧ ds.length = n ∧ m ds = some o ∧ WdO K A o F H Q E
theorem spD_len {K : PySem.W.Frag} {A : Ad} {n : Nat} {m : List D → Option Out} : ∀ vs H Q E, spD K A n m vs H Q E → vs.length = n := fun vs H Q E ⟨F, ds, o, _, r, l, _⟩ => by rw [r.length, l]
def startE (n : Nat) (ds : List D) : Ro := ds.map .fz ++ List.replicate (n - ds.length) .un
def outOf : Option Fl → Option Out
  | some (.nx _) => some (.ret .non)
  | some (.rt d) => some (.ret d)
  | some (.rto ds) => some (.reto ds)
  | some (.ex e _) => some (.exc e)
  | _ => none
def runD (n : Nat) (body : Ro → Option Fl) (ds : List D) : Option Out := outOf (body (startE n ds))
theorem SR.begin {K : PySem.W.Frag} {A : Ad} {T : Nat → V} {F H : Hp} {vs : List V} {ds : List D} {N : List Str} (e : Ex F H) (r : RepL K A F vs ds) : SR K A T H F F H (L2.start N vs) (startE N.length ds) where
  fh := e
  bh := .refl _
  f0 := .refl _
  nw := fun _ _ _ => rfl
  len := by unfold L2.start startE; rw [List.length_append, List.length_append, List.length_map, List.length_map, List.length_replicate, List.length_replicate, r.length]
  fz := fun i d h => by
    unfold startE at h
    unfold L2.start
    by_cases hi : i < ds.length
    · rw [List.getElem?_append_left (by simpa using hi)] at h
      rw [List.getElem?_append_left (by rw [List.length_map, r.length]; exact hi)]
      rw [List.getElem?_map] at h
      cases ed : ds[i]? with
      | none => rw [ed] at h; cases h
      | some d' =>
        rw [ed] at h
        cases (Option.some.inj h)
        obtain ⟨v, h1, h2⟩ := r.get ed
        exact ⟨v, by rw [List.getElem?_map, h1]; rfl, h2⟩
    · rw [List.getElem?_append_right (by simpa using hi), List.getElem?_replicate] at h
      split at h <;> cases h
  ow := fun i d h => by
    unfold startE at h
    by_cases hi : i < ds.length
    · rw [List.getElem?_append_left (by simpa using hi), List.getElem?_map] at h
      cases ed : ds[i]? with
      | none => rw [ed] at h; cases h
      | some d' => rw [ed] at h; cases h
    · rw [List.getElem?_append_right (by simpa using hi), List.getElem?_replicate] at h
      split at h <;> cases h
  sep := fun i j d es _ h _ => by
    unfold startE at h
    by_cases hi : i < ds.length
    · rw [List.getElem?_append_left (by simpa using hi), List.getElem?_map] at h
      cases ed : ds[i]? with
      | none => rw [ed] at h; cases h
      | some d' => rw [ed] at h; cases h
    · rw [List.getElem?_append_right (by simpa using hi), List.getElem?_replicate] at h
      split at h <;> cases h
  tk := fun i n h => by
    unfold startE at h
    by_cases hi : i < ds.length
    · rw [List.getElem?_append_left (by simpa using hi), List.getElem?_map] at h
      cases ed : ds[i]? with
      | none => rw [ed] at h; cases h
      | some d' => rw [ed] at h; cases h
    · rw [List.getElem?_append_right (by simpa using hi), List.getElem?_replicate] at h
      split at h <;> cases h
def fxOf (A : Ad) (H F : Hp) (E : XK) : Fx := ⟨A, fun _ => .non, H, F, fun cls d _ H' => E cls d H'⟩
theorem run_body {K : PySem.W.Frag} {A : Ad} {N : List Str} {vs : List V} {H F : Hp} {Q : VK} {E : XK} {ds : List D} {o : Out} {body : Ro → Option Fl} (e : Ex F H) (r : RepL K A F vs ds) (hm : runD N.length body ds = some o) (w : WdO K A o F H Q E) :
    tS K (fxOf A H F E) body { nx := fun _ H' => Q .non H', rt := Q } (L2.start N vs) H := by
  unfold runD outOf at hm
  refine ⟨F, startE N.length ds, ?_⟩
  split at hm
  · rename_i ρ hf
    cases (Option.some.inj hm)
    exact ⟨_, SR.begin e r, hf, fun F' H' σ' G S => w F' H' .non S.out .non⟩
  · rename_i d hf
    cases (Option.some.inj hm)
    exact ⟨_, SR.begin e r, hf, w⟩
  · rename_i d hf
    cases (Option.some.inj hm)
    exact ⟨_, SR.begin e r, hf, w⟩
  · rename_i y ρ hf
    cases (Option.some.inj hm)
    exact ⟨_, SR.begin e r, hf, fun F' H' σ' G S dd q => w F' H' dd S.out q⟩
  · cases hm
section
variable {P : Program} {w : World} {K : PySem.W.Frag} {mg : Str → Option Value} {base : Heap}
theorem fun_ok {CX : CXT} {nm qual : Str} {st : Stmt} {f : Addr} {fd : FuncData} {N ps : List Str} {k : Nat} {sp : Sp} (F : Fun K nm qual st f fd) (S : FnScope N ps (defScope st)) (len : ∀ vs H Q E, sp vs H Q E → vs.length = ps.length)
    (hbody : ∀ (cdv : Value) (A' : Around) (outer : List Env) (s : Shared) (H : Hp) (vs : List V) (Q : VK) (E : XK), Room k (A'.deeper (envOfC qual (defScope st) s.heap.objs.size f cdv)) → sp vs H Q E →
      ∃ t, PSs (cxOf CX P w K mg base N qual (defScope st) f cdv A' outer s H E) (defBody st) t ∧ t { nx := fun _ H' => Q .non H', rt := Q } (L2.start N vs) H) : FnOk P w K mg base CX (k + 1) f fd ps sp := by
  obtain ⟨oc, od, kV, doc, pm, an, cdv, ct, osl, rfl, lk, hcd⟩ := F.ex
  exact fn_of lk hcd S len fun A' outer s H vs Q E hr hsp => hbody cdv A' outer s H vs Q E hr hsp
/-- THE RULE: a def by its body -/
theorem fnD {nm qual : Str} {st : Stmt} {f : Addr} {fd : FuncData} {N ps : List Str} {k : Nat} {A : Ad} {body : Ro → Option Fl} (F : Fun K nm qual st f fd) (S : FnScope N ps (defScope st))
    (hb : ∀ (cdv : Value) (A' : Around) (outer : List Env) (s : Shared) (H F0 : Hp) (E : XK), Room k (A'.deeper (envOfC qual (defScope st) s.heap.objs.size f cdv)) →
      PSs (cxOf (L2N.CX P w) P w K mg base N qual (defScope st) f cdv A' outer s H E) (defBody st) (tS K (fxOf A H F0 E) body)) :
    FnOk P w K mg base (L2N.CX P w) (k + 1) f fd ps (spD K A ps.length (runD N.length body)) :=
  fun_ok F S (spD_len) fun cdv A' outer s H vs Q E hr ⟨F0, ds, o, e, r, l, hm, wd⟩ => ⟨_, hb cdv A' outer s H F0 E hr, run_body e r hm wd⟩
/-- .. of which defaults are told -/
theorem fnDD {nm qual : Str} {params : Arguments} {bd : List Stmt} {scope : Scope} {dvs : List V} {kws : List (Str × V)} {f : Addr} {fd : FuncData} {N ps : List Str} {k : Nat} {A : Ad} {body : Ro → Option Fl} (F : FunD K nm qual params bd scope dvs kws f fd) (S : FnScope N ps scope)
    (hb : ∀ (cdv : Value) (A' : Around) (outer : List Env) (s : Shared) (H F0 : Hp) (E : XK), Room k (A'.deeper (envOfC qual scope s.heap.objs.size f cdv)) →
      PSs (cxOf (L2N.CX P w) P w K mg base N qual scope f cdv A' outer s H E) bd (tS K (fxOf A H F0 E) body)) :
    FnOk P w K mg base (L2N.CX P w) (k + 1) f fd ps (spD K A ps.length (runD N.length body)) :=
  F.ok S (spD_len) fun cdv A' outer s H vs Q E hr ⟨F0, ds, o, e, r, l, hm, wd⟩ => ⟨_, hb cdv A' outer s H F0 E hr, run_body e r hm wd⟩
theorem FnOk.spd {k : Nat} {CX : CXT} {f : Addr} {fd : FuncData} {ps : List Str} {A : Ad} {n : Nat} {m m' : List D → Option Out} (F : FnOk P w K mg base CX k f fd ps (spD K A n m)) (h : ∀ ds o, ds.length = n → m' ds = some o → m ds = some o) : FnOk P w K mg base CX k f fd ps (spD K A n m') :=
  F.imp fun vs H Q E ⟨F0, ds, o, e, r, l, hm, wd⟩ => ⟨F0, ds, o, e, r, l, h ds o l hm, wd⟩
end

/-! ### calls by data -/
def dCall (m : List D → Option Out) (ds : List D) : EM D := match m ds with
  | some (.ret d) => ok d
  | some (.reto ds) => ok (.lst ds)
  | some (.exc e) => some (.error e)
  | none => none
/-- .. of what hands back a new list -/
def dCallO (m : List D → Option Out) (ds : List D) : EM D := match m ds with
  | some (.reto ds) => ok (.lst ds)
  | some (.exc e) => some (.error e)
  | _ => none
def eCall (h : List D → EM D) (fs : Ro → EM (List D)) : Ro → EM D := fun ρ => bnd (fs ρ) h
section
variable {X : Cx} {x : Fx} {k : Nat} {f : Addr} {fd : FuncData} {ps : List Str} {n : Str} {p pos apos : Pos} {e o : Expr} {es : List Expr} {fs : Ro → EM (List D)} {g : Ro → EM D} {dvs : List V} {dds : List D} {ds : List Value} {m : List D → Option Out} {na : Nat}
theorem sp_call {F H : Hp} {σ : L2.St} {Q : VK} {vs : List V} {cs : List D} {r : Except Xn D} (ex : Ex F H) (rv : RepL X.K x.A F vs cs) (hn : cs.length = na) (hd : dCall m cs = some r) (w : Wd X.K x .fz r F H σ Q) : spD X.K x.A na m vs H Q (WE x.W σ) := by
  unfold dCall at hd
  cases em : m cs with
  | none => rw [em] at hd; cases hd
  | some q =>
    rw [em] at hd
    refine ⟨F, cs, q, ex, rv, hn, em, ?_⟩
    cases q with
    | ret d =>
      cases (Option.some.inj hd)
      exact fun F' H' v G r => w F' H' v G r
    | reto ds' =>
      cases (Option.some.inj hd)
      intro F' H' l ws G e0 e5 e3 e4
      have ex' : Ex F' (upd F' l (.lst ws)) := .new e5
      refine w (upd F' l (.lst ws)) H' (.ref l) ⟨G.f.trans ex', G.h, fun c o hc => ?_, fun c o hc => ?_⟩ (Rep.lst upd_same (e4.mono ex'))
      · by_cases q : c = l
        · subst q; rw [upd_same] at hc; rw [← hc]; exact e3
        · rw [upd_ne q] at hc; exact G.i c o hc
      · rw [upd_ne (ne_of_none hc e0)]
        exact G.n c o hc
    | exc y =>
      cases (Option.some.inj hd)
      exact fun F' H' dd G r => w F' H' dd G r
theorem sp_callO {F H : Hp} {σ : L2.St} {Q : VK} {vs : List V} {cs : List D} {r : Except Xn D} (ex : Ex F H) (rv : RepL X.K x.A F vs cs) (hn : cs.length = na) (hd : dCallO m cs = some r) (w : Wd X.K x .ow r F H σ Q) : spD X.K x.A na m vs H Q (WE x.W σ) := by
  unfold dCallO at hd
  cases em : m cs with
  | none => rw [em] at hd; cases hd
  | some q =>
    rw [em] at hd
    refine ⟨F, cs, q, ex, rv, hn, em, ?_⟩
    cases q with
    | ret d => cases hd
    | reto ds' =>
      cases (Option.some.inj hd)
      exact fun F' H' l ws G e0 e5 e3 e4 => w F' H' (.ref l) G ⟨l, ws, ds', rfl, rfl, e0, e5, e3, e4⟩
    | exc y =>
      cases (Option.some.inj hd)
      exact fun F' H' dd G r => w F' H' dd G r
/-- defaults put behind -/
def dDef (na : Nat) (dds : List D) (h : List D → EM D) (cs : List D) : EM D := if (cs ++ dds).length = na then h (cs ++ dds) else none
theorem dDef_some {na : Nat} {dds cs : List D} {h : List D → EM D} {r : Except Xn D} (e : dDef na dds h cs = some r) : (cs ++ dds).length = na ∧ h (cs ++ dds) = some r := by
  unfold dDef at e
  split at e
  · exact ⟨by assumption, e⟩
  · cases e
theorem pk_call (tk : L2N.Takes X x.W) (Fn : FnOk X.prog X.w X.K X.mg X.base (L2N.CX X.prog X.w) k f fd ps (spD X.K x.A na m)) (hr : Room k X.A) (hm : X.mg n = some (.ref f)) (hk : PySem.W.keepIn X.K (.ref f) = true) (hb : Binds X.K fd ps ds) (hd : Vals dvs ds) (hdd : ∀ F, RepL X.K x.A F dvs dds) (hg : Gl X n)
    (ha : PA X (e :: es) (tA X.K x .fz fs)) (hdb : (n == ("__debug__" : Str)) = false := by decide) (he : starEach (e :: es) X.env = (false, eval e X.env) :: starEach es X.env := by rfl) (hpl : (backTo pos (starEach es X.env)).any (·.1) = false := by rfl) :
    PE X (.Call (.Name n p) (e :: es) [] pos) (tK X.K x .fz (eCall (dDef na dds (dCall m)) fs)) := pe_wk (pe_callG Fn hr hg hm hk hb hd (E := WE x.W) (fun σ => L2N.passAt tk σ) ha hdb he hpl) fun σ H Q ⟨F, ρ, r, S, e, w⟩ =>
  ta_step S e w.x fun cs F1 H1 vs G1 S1 r1 e1 => by
    obtain ⟨hl, e2⟩ := dDef_some e1
    exact sp_call S1.fh (r1.repL.app (hdd _)) hl e2 (w.grow G1)
theorem pk_callO (tk : L2N.Takes X x.W) (Fn : FnOk X.prog X.w X.K X.mg X.base (L2N.CX X.prog X.w) k f fd ps (spD X.K x.A na m)) (hr : Room k X.A) (hm : X.mg n = some (.ref f)) (hk : PySem.W.keepIn X.K (.ref f) = true) (hb : Binds X.K fd ps ds) (hd : Vals dvs ds) (hdd : ∀ F, RepL X.K x.A F dvs dds) (hg : Gl X n)
    (ha : PA X (e :: es) (tA X.K x .fz fs)) (hdb : (n == ("__debug__" : Str)) = false := by decide) (he : starEach (e :: es) X.env = (false, eval e X.env) :: starEach es X.env := by rfl) (hpl : (backTo pos (starEach es X.env)).any (·.1) = false := by rfl) :
    PE X (.Call (.Name n p) (e :: es) [] pos) (tK X.K x .ow (eCall (dDef na dds (dCallO m)) fs)) := pe_wk (pe_callG Fn hr hg hm hk hb hd (E := WE x.W) (fun σ => L2N.passAt tk σ) ha hdb he hpl) fun σ H Q ⟨F, ρ, r, S, e, w⟩ =>
  ta_step S e w.x fun cs F1 H1 vs G1 S1 r1 e1 => by
    obtain ⟨hl, e2⟩ := dDef_some e1
    exact sp_callO S1.fh (r1.repL.app (hdd _)) hl e2 (w.grow G1)

/-! ### methods of own objects -/
/-- o.m(..) by the object's class: its facts at each class -/
structure MtD (P : Program) (w : World) (K : PySem.W.Frag) (mg : Str → Option Value) (base : Heap) (A : Ad) (kk : Nat) (c : Cl) (nm : Str) (na : Nat) (m : List D → Option Out) : Prop where
  cls : Cls K (A.cl c)
  fn : ∃ f fd ps k, k ≤ kk ∧ Meth K (A.cl c) nm f ∧ FnOk P w K mg base (L2N.CX P w) k f fd ps (spD K A na m) ∧ Binds K fd ps []
  no : ∀ vs : List V, (c.names.zip vs).lookup nm = none
def eMeth (na : Nat) (tab : Cl → Option (List D → Option Out)) (dc : (List D → Option Out) → List D → EM D) (g : Ro → EM D) (fs : Ro → EM (List D)) : Ro → EM D := fun ρ => bnd (g ρ) fun d => match d with
  | .obj c cs => match tab c with
    | some m => bnd (fs ρ) fun ds => dDef na [] (dc m) (.obj c cs :: ds)
    | none => none
  | _ => none
theorem pe_any {X : Cx} {ι : Type} {e : Expr} {t : ι → TE} (h : ∀ i, PE X e (t i)) : PE X e (fun σ H Q => ∃ i, t i σ H Q) := ⟨fun pins s σ H Q I ⟨i, q⟩ => (h i).run pins s σ H Q I q⟩
def Dc (X : Cx) (x : Fx) (kind : Kd) (dc : (List D → Option Out) → List D → EM D) : Prop := ∀ {F H : Hp} {σ : L2.St} {Q : VK} {vs : List V} {cs : List D} {r : Except Xn D} {na : Nat} {m : List D → Option Out}, Ex F H → RepL X.K x.A F vs cs → cs.length = na → dc m cs = some r → Wd X.K x kind r F H σ Q → spD X.K x.A na m vs H Q (WE x.W σ)
theorem meth_rd {kind : Kd} {dc : (List D → Option Out) → List D → EM D} {tab : Cl → Option (List D → Option Out)} {t : TA} (hdc : Dc X x kind dc) (ht : ∀ σ H Q, tA X.K x .fz fs σ H Q → t σ H Q) (hno : ∀ c m, tab c = some m → ∀ vs : List V, (c.names.zip vs).lookup n = none)
    {c0 : Cl} (h0 : (tab c0).isSome = true) {σ : L2.St} {H : Hp} {Q : VK} (q : tK X.K x kind (eMeth na tab dc g fs) σ H Q) :
    ∃ i : { c : Cl // (tab c).isSome = true }, tMethG (x.A.cl i.1) n (spD X.K x.A na ((tab i.1).get i.2)) [] (WE x.W) (tK X.K x .fz g) t σ H Q := by
  obtain ⟨F, ρ, r, S, e, w⟩ := q
  unfold eMeth at e
  cases eg : g ρ with
  | none => rw [eg] at e; cases e
  | some rg =>
    rw [eg] at e
    cases rg with
    | error y =>
      cases (Option.some.inj e)
      exact ⟨⟨c0, h0⟩, F, ρ, .error y, S, eg, w⟩
    | ok d =>
      simp only [bnd] at e
      split at e
      · rename_i c cs
        split at e
        · rename_i m em
          refine ⟨⟨c, by rw [em]; rfl⟩, F, ρ, .ok (.obj c cs), S, eg, fun F1 H1 v G1 r1 => ?_⟩
          have rr := r1
          obtain ⟨a, dx, vs, rfl, hg, h1, q1⟩ := rk_obj r1.bw_of
          have S1 := S.grow G1
          refine ⟨a, dx, _, rfl, S1.fh _ _ h1, hno c m em vs, ht _ _ _ (ta_step S1 e (fun y hy => Wx.grow (K := X.K) G1 (w.x y hy)) fun ds F2 H2 ws G2 S2 r2 e2 => ?_)⟩
          obtain ⟨hl, e3⟩ := dDef_some e2
          rw [List.append_nil] at hl e3
          have em' : (tab c).get (by rw [em]; rfl) = m := by simp [em]
          rw [List.append_nil]
          show spD X.K x.A na ((tab c).get _) _ H2 Q (WE x.W σ)
          rw [em']
          exact hdc S2.fh (.cons (Rep.mono G2.f rr) r2.repL) hl e3 (w.grow (G1.trans G2))
        · cases e
      · cases e
theorem dc_call : Dc X x .fz dCall := fun ex rv hn hd w => sp_call ex rv hn hd w
theorem dc_callO : Dc X x .ow dCallO := fun ex rv hn hd w => sp_callO ex rv hn hd w
/-- the facts of a method at each class that has it -/
def MtT (X : Cx) (A : Ad) (kk : Nat) (nm : Str) (na : Nat) (tab : Cl → Option (List D → Option Out)) : Prop := ∀ c m, tab c = some m → MtD X.prog X.w X.K X.mg X.base A kk c nm na m
theorem pk_meth {kind : Kd} {dc : (List D → Option Out) → List D → EM D} {tab : Cl → Option (List D → Option Out)} {kk : Nat} {c0 : Cl} {pl : Sem Bool} (hdc : Dc X x kind dc) (tk : L2N.Takes X x.W) (T : MtT X x.A kk n na tab) (hr : Room kk X.A) (h0 : (tab c0).isSome = true)
    (ho : PE X o (tK X.K x .fz g)) (ha : PA X (e :: es) (tA X.K x .fz fs))
    (hst : starEach (e :: es) X.env = (false, eval e X.env) :: starEach es X.env := by rfl) (hpl : (backTo pos (starEach es X.env)).any (·.1) = false := by rfl)
    (ht : eval (.Call (.Attribute o n apos) (e :: es) [] pos) X.env = (do
      let ov ← eval o X.env
      standAt apos.atName
      let (f, first) ← holding [ov] (getMethod ov n pl)
      callWith pos f first (backTo pos (starEach (e :: es) X.env)) (backToKw pos (keywordEach [] X.env))) := by rfl) :
    PE X (.Call (.Attribute o n apos) (e :: es) [] pos) (tK X.K x kind (eMeth na tab dc g fs)) :=
  pe_wk (pe_any fun (i : { c : Cl // (tab c).isSome = true }) => by
    have M := T i.1 _ (Option.some_get i.2).symm
    obtain ⟨f, fd, ps, k, hk, hm, Fn, hb⟩ := M.fn
    exact pe_methG (pl := pl) ho M.cls hm Fn (hr.mono hk) hb .nil (E := WE x.W) (fun σ => L2N.passAt tk σ) ha hst hpl ht)
    fun σ H Q q => meth_rd hdc (fun _ _ _ q => q) (fun c m h vs => (T c m h).no vs) h0 q
theorem pk_meth0 {kind : Kd} {dc : (List D → Option Out) → List D → EM D} {tab : Cl → Option (List D → Option Out)} {kk : Nat} {c0 : Cl} {pl : Sem Bool} (hdc : Dc X x kind dc) (tk : L2N.Takes X x.W) (T : MtT X x.A kk n na tab) (hr : Room kk X.A) (h0 : (tab c0).isSome = true)
    (ho : PE X o (tK X.K x .fz g))
    (ht : eval (.Call (.Attribute o n apos) [] [] pos) X.env = (do
      let ov ← eval o X.env
      standAt apos.atName
      let (f, first) ← holding [ov] (getMethod ov n pl)
      callWith pos f first (backTo pos (starEach [] X.env)) (backToKw pos (keywordEach [] X.env))) := by rfl) :
    PE X (.Call (.Attribute o n apos) [] [] pos) (tK X.K x kind (eMeth na tab dc g aNil)) :=
  pe_wk (pe_any fun (i : { c : Cl // (tab c).isSome = true }) => by
    have M := T i.1 _ (Option.some_get i.2).symm
    obtain ⟨f, fd, ps, k, hk, hm, Fn, hb⟩ := M.fn
    exact pe_methG0 (pl := pl) ho M.cls hm Fn (hr.mono hk) hb .nil (E := WE x.W) (fun σ => L2N.passAt tk σ) ht)
    fun σ H Q q => meth_rd hdc (fun σ H Q ⟨F, ρ, r, S, e, w⟩ => by
      cases (Option.some.inj e)
      exact w F H [] (.refl S.fh) .nil) (fun c m h vs => (T c m h).no vs) h0 q

/-! ### new objects -/
structure GrowP (p : Addr) (F H F' H' : Hp) : Prop where
  f : Ex F F'
  h : ∀ a o, a ≠ p → H a = some o → H' a = some o
  i : Ex F' H'
  fp : F' p = none
  n : ∀ a o, a ≠ p → H a = some o → F' a = F a
/-- what an __init__ promises -/
def spI (K : PySem.W.Frag) (A : Ad) (C : Addr) (names : List Str) (na : Nat) (m : List D → EM (List D)) : Sp := fun vs H Q E => ∃ (p dx : Addr) (F : Hp) (ws : List V) (ds : List D) (r : Except Xn (List D)), vs = .ref p :: ws ∧ H p = some (.ins C dx []) ∧ F p = none ∧ Ex F H ∧ RepL K A F ws ds ∧ ds.length = na ∧ m ds = some r ∧
  (match r with
    | .ok fs => ∀ F' H' fvs, GrowP p F H F' H' → H' p = some (.ins C dx (names.zip fvs)) → fvs.length = names.length → RepL K A F' fvs fs → Q .non H'
    | .error e => ∀ F' H' dd, GrowP p F H F' H' → XR H' e dd → E (.ref (A.xc e.cl)) dd H')
def dMake (m : List D → EM (List D)) (c : Cl) (cs : List D) : EM D := bnd (m cs) fun fs => ok (.obj c fs)
theorem pk_make {c : Cl} {mi : List D → EM (List D)} (tk : L2N.Takes X x.W) (hc : x.A.has c = true) (M : Mk X.K (x.A.cl c) f) (Fn : FnOk X.prog X.w X.K X.mg X.base (L2N.CX X.prog X.w) k f fd ps (spI X.K x.A (x.A.cl c) c.names na mi)) (hr : Room (k + 1) X.A) (hm : X.mg n = some (.ref (x.A.cl c))) (hb : Binds X.K fd ps ds) (hd : Vals dvs ds) (hdd : ∀ F, RepL X.K x.A F dvs dds) (hg : Gl X n)
    (ha : PA X (e :: es) (tA X.K x .fz fs)) (hdb : (n == ("__debug__" : Str)) = false := by decide) (he : starEach (e :: es) X.env = (false, eval e X.env) :: starEach es X.env := by rfl) (hpl : (backTo pos (starEach es X.env)).any (·.1) = false := by rfl) :
    PE X (.Call (.Name n p) (e :: es) [] pos) (tK X.K x .fz (eCall (dDef na dds (dMake mi c)) fs)) := pe_wk (pe_makeG M Fn hr hg hm hb hd (E := WE x.W) (fun σ => L2N.passAt tk σ) ha hdb he hpl) fun σ H Q ⟨F, ρ, r, S, e, w⟩ =>
  ta_step S e w.x fun cs F1 H1 vs G1 S1 r1 e1 => by
    obtain ⟨hl, e2⟩ := dDef_some e1
    intro x' dx hx hdx hne
    unfold dMake at e2
    have Fx : F1 x' = none := S1.fh.free hx
    have ex : Ex F1 (upd (upd H1 dx (.own x')) x' (.ins (x.A.cl c) dx [])) := fun a o ha => by
      have h1 := S1.fh a o ha
      rw [upd_ne (ne_of_none h1 hx), upd_ne (ne_of_none h1 hdx)]
      exact h1
    have old : ∀ a o, H1 a = some o → a ≠ x' ∧ upd (upd H1 dx (.own x')) x' (.ins (x.A.cl c) dx []) a = some o := fun a o ha => ⟨ne_of_none ha hx, by
      rw [upd_ne (ne_of_none ha hx), upd_ne (ne_of_none ha hdx)]
      exact ha⟩
    cases em : mi (cs ++ dds) with
    | none => rw [em] at e2; cases e2
    | some q =>
      rw [em] at e2
      refine ⟨x', dx, F1, _, cs ++ dds, q, rfl, upd_same, Fx, ex, r1.repL.app (hdd _), hl, em, ?_⟩
      cases q with
      | error y =>
        cases (Option.some.inj e2)
        exact fun F' H' dd G r => (w : Wx X.K x F H σ y).grow (K := X.K) G1 F' H' dd ⟨G.f, fun a o ha => G.h a o (old a o ha).1 (old a o ha).2, G.i, fun a o ha => G.n a o (old a o ha).1 (old a o ha).2⟩ r
      | ok fs' =>
        cases (Option.some.inj e2)
        intro F' H' fvs G hp hlen rf
        have exF : Ex F' (upd F' x' (.ins (x.A.cl c) dx (c.names.zip fvs))) := fun a o ha => by
          by_cases q : a = x'
          · subst q
            have := G.i a o ha
            rw [hp] at this
            rw [upd_same]
            exact this
          · rw [upd_ne q]; exact ha
        refine ⟨rfl, (w.grow G1) (upd F' x' (.ins (x.A.cl c) dx (c.names.zip fvs))) H' (.ref x') ⟨G.f.trans exF, fun a o ha => G.h a o (old a o ha).1 (old a o ha).2, fun a o ha => ?_, fun a o ha => ?_⟩ (Rep.obj hc upd_same hlen (rf.mono exF))⟩
        · by_cases q : a = x'
          · subst q; rw [upd_same] at ha; rw [← ha]; exact hp
          · rw [upd_ne q] at ha; exact G.i a o ha
        · rw [upd_ne (old a o ha).1]
          exact G.n a o (old a o ha).1 (old a o ha).2
end
end Tw
/-! TwF: built-ins by data: len, min, max, sum, any, all, str, int, tuple, list, divmod, isinstance; methods of texts and lists. -/
namespace Tw
open PySem PySem.Spec PyProof.Rows L2

def Cb (K : PySem.W.Frag) (x : Fx) (k : Kd) (r : List V → Hp → VK → Prop) (h : List D → EM D) : Prop := ∀ (F H : Hp) (σ : L2.St) (vs : List V) (ds : List D) (q : D) (Q : VK),
  Ex F H → RKL K x.A .bw F H H vs ds → h ds = some (.ok q) → Wd K x k (.ok q) F H σ Q → r vs H Q
theorem RKL.bw0 {K : PySem.W.Frag} {A : Ad} {F H0 H1 H : Hp} : ∀ {vs : List V} {ds : List D}, RKL K A .bw F H0 H vs ds → RKL K A .bw F H1 H vs ds
  | _, _, .nil => .nil
  | _, _, .cons h r => .cons h (RKL.bw0 r)
def NoX1 (h : List D → EM D) : Prop := ∀ ds y, h ds ≠ some (.error y)
section
variable {X : Cx} {x : Fx} {k : Kd} {bid T n : String} {nm : Str} {p pos apos : Pos} {e o : Expr} {es : List Expr} {fs : Ro → EM (List D)} {f g : Ro → EM D} {h : List D → EM D} {r : List V → Hp → VK → Prop}
theorem tk_cb (cb : Cb X.K x k r h) (nx : NoX1 h) {σ : L2.St} {H : Hp} {Q : VK} (q : tK X.K x k (eCall h fs) σ H Q) : tCB r (tA X.K x .bw fs) σ H Q := by
  obtain ⟨F, ρ, z, S, e, w⟩ := q
  refine ta_step S e w.x fun ds F1 H1 vs G1 S1 r1 e1 => ?_
  cases z with
  | error y => exact absurd e1 (nx ds y)
  | ok z => exact cb F1 H1 σ vs ds z Q S1.fh r1.bw0 e1 (w.grow G1)
theorem pk_cb (hc : CallR X (.builtin bid) r) (cb : Cb X.K x k r h) (nx : NoX1 h) (hm : X.mg nm = none) (hv : bootBuiltins nm = some (.builtin bid)) (hg : Gl X nm) (ha : PA X (e :: es) (tA X.K x .bw fs)) (hn : nm ≠ "__name__" := by decide) (hdb : (nm == ("__debug__" : Str)) = false := by decide)
    (he : starEach (e :: es) X.env = (false, eval e X.env) :: starEach es X.env := by rfl) (hpl : (backTo pos (starEach es X.env)).any (·.1) = false := by rfl) : PE X (.Call (.Name nm p) (e :: es) [] pos) (tK X.K x k (eCall h fs)) :=
  pe_wk (pe_callB hc hg hm hv ha hn hdb he hpl) fun _ _ _ q => tk_cb cb nx q
theorem pk_ct (hc : CallR X (.type T) r) (cb : Cb X.K x k r h) (nx : NoX1 h) (hm : X.mg nm = none) (hv : bootBuiltins nm = some (.type T)) (hg : Gl X nm) (ha : PA X (e :: es) (tA X.K x .bw fs)) (hn : nm ≠ "__name__" := by decide) (hdb : (nm == ("__debug__" : Str)) = false := by decide)
    (he : starEach (e :: es) X.env = (false, eval e X.env) :: starEach es X.env := by rfl) (hpl : (backTo pos (starEach es X.env)).any (·.1) = false := by rfl) : PE X (.Call (.Name nm p) (e :: es) [] pos) (tK X.K x k (eCall h fs)) :=
  pe_wk (pe_callTy hc hg hm hv ha hn hdb he hpl) fun _ _ _ q => tk_cb cb nx q

/-! ### len -/
def dLen (ds : List D) : EM D := match ds with
  | [.str z] => if z.length ≤ sizeLine then ok (.int z.length) else none
  | [.lst xs] => ok (.int xs.length)
  | [.tup xs] => ok (.int xs.length)
  | [.scr ns] => ok (.int ns.length)
  | _ => none
theorem nx_len : NoX1 dLen := fun ds y q => by
  unfold dLen at q
  split at q <;> first
    | cases q
    | (split at q <;> cases q)
theorem rkl1 {K : PySem.W.Frag} {A : Ad} {k : Kd} {F H H' : Hp} {vs : List V} {d : D} (h : RKL K A k F H H' vs [d]) : ∃ v, vs = [v] ∧ RK K A k F H H' v d := by
  cases h with
  | cons h r => cases r; exact ⟨_, rfl, h⟩
theorem rkl2 {K : PySem.W.Frag} {A : Ad} {k : Kd} {F H H' : Hp} {vs : List V} {d e : D} (h : RKL K A k F H H' vs [d, e]) : ∃ v u, vs = [v, u] ∧ RK K A k F H H' v d ∧ RK K A k F H H' u e := by
  cases h with
  | cons h r =>
    cases r with
    | cons h2 r => cases r; exact ⟨_, _, rfl, h, h2⟩
theorem cb_len : Cb X.K x .fz (fun xs H Q => ∃ x n, xs = [x] ∧ LenV X.K x H n ∧ Q (.int n) H) dLen := fun F H σ vs ds q Q ex rv hq w => by
  unfold dLen at hq
  split at hq
  · split at hq
    · rename_i hz
      cases (Option.some.inj hq)
      obtain ⟨v, rfl, rw1⟩ := rkl1 rv
      rw [rk_str rw1]
      exact ⟨_, _, rfl, ⟨hz, rfl⟩, w.val ex (.int _) (by decide)⟩
    · cases hq
  · cases (Option.some.inj hq)
    obtain ⟨v, rfl, rw1⟩ := rkl1 rv
    obtain ⟨p, vs, rfl, h1, q1⟩ := rw1.lst ex
    exact ⟨_, _, rfl, .inl ⟨_, .of h1, q1.length.symm⟩, w.val ex (.int _) (by decide)⟩
  · cases (Option.some.inj hq)
    obtain ⟨v, rfl, rw1⟩ := rkl1 rv
    obtain ⟨p, vs, rfl, h1, q1⟩ := rk_tup rw1
    exact ⟨_, _, rfl, .inr ⟨_, .of (ex _ _ h1), q1.length.symm⟩, w.val ex (.int _) (by decide)⟩
  · cases (Option.some.inj hq)
    obtain ⟨v, rfl, rw1⟩ := rkl1 rv
    obtain ⟨p, rfl, h1⟩ := rk_scr rw1
    exact ⟨_, _, rfl, .inl ⟨_, ex.sqL h1, by rw [List.length_map]⟩, w.val ex (.int _) (by decide)⟩
  · cases hq
theorem pk_len (hm : X.mg "len" = none) (hg : Gl X "len") (ha : PA X [e] (tA X.K x .bw fs)) (he : starEach [e] X.env = (false, eval e X.env) :: starEach [] X.env := by rfl) : PE X (.Call (.Name "len" p) [e] [] pos) (tK X.K x .fz (eCall dLen fs)) :=
  pk_cb call_len cb_len nx_len hm PySem.boot_len hg ha (he := he)
/-! ### two ints -/
def dI2 (g : Int → Int → Int) (ds : List D) : EM D := match ds with
  | [.int i, .int j] => ok (.int (g i j))
  | _ => none
theorem nx_I2 {g : Int → Int → Int} : NoX1 (dI2 g) := fun ds y q => by
  unfold dI2 at q
  split at q <;> cases q
theorem cb_I2 {g : Int → Int → Int} : Cb X.K x .fz (fun xs H Q => ∃ i j, xs = [.int i, .int j] ∧ Q (.int (g i j)) H) (dI2 g) := fun F H σ vs ds q Q ex rv hq w => by
  unfold dI2 at hq
  split at hq
  · cases (Option.some.inj hq)
    obtain ⟨v, u, rfl, r1, r2⟩ := rkl2 rv
    rw [rk_int r1, rk_int r2]
    exact ⟨_, _, rfl, w.val ex (.int _) (by decide)⟩
  · cases hq
def dMin2 := dI2 fun i j => if j < i then j else i
def dMax2 := dI2 fun i j => if j > i then j else i
theorem pk_min2 {e2 : Expr} (hc : X.calm = true) (hm : X.mg "min" = none) (hg : Gl X "min") (ha : PA X [e, e2] (tA X.K x .bw fs)) (he : starEach [e, e2] X.env = (false, eval e X.env) :: starEach [e2] X.env := by rfl) (hpl : (backTo pos (starEach [e2] X.env)).any (·.1) = false := by rfl) : PE X (.Call (.Name "min" p) [e, e2] [] pos) (tK X.K x .fz (eCall dMin2 fs)) :=
  pk_cb (call_min2 hc) cb_I2 nx_I2 hm (by decide +kernel) hg ha (he := he) (hpl := hpl)
theorem pk_max2 {e2 : Expr} (hc : X.calm = true) (hm : X.mg "max" = none) (hg : Gl X "max") (ha : PA X [e, e2] (tA X.K x .bw fs)) (he : starEach [e, e2] X.env = (false, eval e X.env) :: starEach [e2] X.env := by rfl) (hpl : (backTo pos (starEach [e2] X.env)).any (·.1) = false := by rfl) : PE X (.Call (.Name "max" p) [e, e2] [] pos) (tK X.K x .fz (eCall dMax2 fs)) :=
  pk_cb (call_max2 hc) cb_I2 nx_I2 hm (by decide +kernel) hg ha (he := he) (hpl := hpl)
def dAbs (ds : List D) : EM D := match ds with
  | [.int i] => ok (.int (if i < 0 then -i else i))
  | _ => none
theorem pk_abs (hm : X.mg "abs" = none) (hg : Gl X "abs") (ha : PA X [e] (tA X.K x .bw fs)) (he : starEach [e] X.env = (false, eval e X.env) :: starEach [] X.env := by rfl) : PE X (.Call (.Name "abs" p) [e] [] pos) (tK X.K x .fz (eCall dAbs fs)) :=
  pk_cb call_abs (fun F H σ vs ds q Q ex rv hq w => by
    unfold dAbs at hq
    split at hq
    · cases (Option.some.inj hq)
      obtain ⟨v, rfl, r1⟩ := rkl1 rv
      rw [rk_int r1]
      exact ⟨_, rfl, w.val ex (.int _) (by decide)⟩
    · cases hq) (fun ds y q => by
    unfold dAbs at q
    split at q <;> cases q) hm (by decide +kernel) hg ha (he := he)
/-! ### lists of ints, of bools -/
def intsOf : List D → Option (List Int)
  | [] => some []
  | .int i :: r => (intsOf r).map (i :: ·)
  | _ => none
theorem intsOf_map : ∀ {ds : List D} {ns : List Int}, intsOf ds = some ns → ds = ns.map D.int
  | [], _, e => by cases (Option.some.inj e); rfl
  | .int i :: r, ns, e => by
    unfold intsOf at e
    cases q : intsOf r with
    | none => rw [q] at e; cases e
    | some ms =>
      rw [q] at e
      cases (Option.some.inj e)
      rw [intsOf_map q]
      rfl
theorem intsOf_ints : ∀ ns : List Int, intsOf (ns.map D.int) = some ns
  | [] => rfl
  | n :: ns => by
    rw [List.map_cons]
    unfold intsOf
    rw [intsOf_ints ns]
    rfl
def blsOf : List D → Option (List Bool)
  | [] => some []
  | .bl i :: r => (blsOf r).map (i :: ·)
  | _ => none
theorem blsOf_map : ∀ {ds : List D} {ns : List Bool}, blsOf ds = some ns → ds = ns.map D.bl
  | [], _, e => by cases (Option.some.inj e); rfl
  | .bl i :: r, ns, e => by
    unfold blsOf at e
    cases q : blsOf r with
    | none => rw [q] at e; cases e
    | some ms =>
      rw [q] at e
      cases (Option.some.inj e)
      rw [blsOf_map q]
      rfl
theorem blsOf_bls : ∀ ns : List Bool, blsOf (ns.map D.bl) = some ns
  | [] => rfl
  | n :: ns => by
    rw [List.map_cons]
    unfold blsOf
    rw [blsOf_bls ns]
    rfl
def strsOf : List D → Option (List Str)
  | [] => some []
  | .str i :: r => (strsOf r).map (i :: ·)
  | _ => none
theorem strsOf_map : ∀ {ds : List D} {ns : List Str}, strsOf ds = some ns → ds = ns.map D.str
  | [], _, e => by cases (Option.some.inj e); rfl
  | .str i :: r, ns, e => by
    unfold strsOf at e
    cases q : strsOf r with
    | none => rw [q] at e; cases e
    | some ms =>
      rw [q] at e
      cases (Option.some.inj e)
      rw [strsOf_map q]
      rfl
theorem strsOf_strs : ∀ ns : List Str, strsOf (ns.map D.str) = some ns
  | [] => rfl
  | n :: ns => by
    rw [List.map_cons]
    unfold strsOf
    rw [strsOf_strs ns]
    rfl
def dSum (ds : List D) : EM D := match ds with
  | [.lst xs] => (intsOf xs).map fun ns => .ok (.int ns.sum)
  | _ => none
def maxL : List Int → Int
  | [] => 0
  | n :: ns => ns.foldl max n
theorem maxL_ge : ∀ (ns : List Int) (a : Int), a ≤ ns.foldl max a ∧ ∀ y ∈ ns, y ≤ ns.foldl max a
  | [], a => ⟨Int.le_refl _, fun _ h => nomatch h⟩
  | n :: ns, a => by
    obtain ⟨h1, h2⟩ := maxL_ge ns (max a n)
    refine ⟨Int.le_trans (Int.le_max_left _ _) h1, fun y hy => ?_⟩
    rcases List.mem_cons.mp hy with rfl | hy
    · exact Int.le_trans (Int.le_max_right _ _) h1
    · exact h2 y hy
theorem maxL_mem : ∀ (ns : List Int) (a : Int), ns.foldl max a = a ∨ ns.foldl max a ∈ ns
  | [], a => .inl rfl
  | n :: ns, a => by
    rcases maxL_mem ns (max a n) with h | h
    · show List.foldl max (max a n) ns = a ∨ _
      rw [h]
      rcases Int.le_total a n with q | q
      · right; rw [List.foldl_cons, h, Int.max_eq_right q]; exact List.mem_cons_self
      · left; exact Int.max_eq_left q
    · right; exact List.mem_cons_of_mem _ h
theorem maxL_is {ns : List Int} {m : Int} (hm : m ∈ ns) (hle : ∀ y ∈ ns, y ≤ m) : m = maxL ns := by
  cases ns with
  | nil => cases hm
  | cons n ns =>
    unfold maxL
    obtain ⟨h1, h2⟩ := maxL_ge ns n
    have a : m ≤ ns.foldl max n := by
      rcases List.mem_cons.mp hm with rfl | hm
      · exact h1
      · exact h2 m hm
    have b : ns.foldl max n ≤ m := by
      rcases maxL_mem ns n with q | q
      · rw [q]; exact hle n List.mem_cons_self
      · exact hle _ (List.mem_cons_of_mem _ q)
    exact Int.le_antisymm a b
def dMaxL (ds : List D) : EM D := match ds with
  | [.lst xs] => match intsOf xs with
    | some ns => if 0 < ns.length then ok (.int (maxL ns)) else none
    | none => none
  | _ => none
theorem rk_ints {K : PySem.W.Frag} {A : Ad} {F H H0 : Hp} {v : V} {xs : List D} {ns : List Int} (e : Ex F H) (h : RK K A .bw F H0 H v (.lst xs)) (hi : intsOf xs = some ns) : ∃ a, v = .ref a ∧ SqL K H a (ns.map V.int) := by
  obtain ⟨a, vs, rfl, h1, q1⟩ := h.lst e
  rw [intsOf_map hi] at q1
  rw [q1.ofInts] at h1
  exact ⟨a, rfl, .of h1⟩
theorem rk_bls {K : PySem.W.Frag} {A : Ad} {F H H0 : Hp} {v : V} {xs : List D} {ns : List Bool} (e : Ex F H) (h : RK K A .bw F H0 H v (.lst xs)) (hi : blsOf xs = some ns) : ∃ a, v = .ref a ∧ SqL K H a (ns.map V.bl) := by
  obtain ⟨a, vs, rfl, h1, q1⟩ := h.lst e
  rw [blsOf_map hi] at q1
  rw [q1.ofBls] at h1
  exact ⟨a, rfl, .of h1⟩
theorem rk_strs {K : PySem.W.Frag} {A : Ad} {F H H0 : Hp} {v : V} {xs : List D} {ns : List Str} (e : Ex F H) (h : RK K A .bw F H0 H v (.lst xs)) (hi : strsOf xs = some ns) : ∃ a, v = .ref a ∧ SqL K H a (ns.map V.str) := by
  obtain ⟨a, vs, rfl, h1, q1⟩ := h.lst e
  rw [strsOf_map hi] at q1
  rw [q1.ofStrs] at h1
  exact ⟨a, rfl, .of h1⟩
theorem pk_sum (hc : X.calm = true) (hm : X.mg "sum" = none) (hg : Gl X "sum") (ha : PA X [e] (tA X.K x .bw fs)) (he : starEach [e] X.env = (false, eval e X.env) :: starEach [] X.env := by rfl) : PE X (.Call (.Name "sum" p) [e] [] pos) (tK X.K x .fz (eCall dSum fs)) :=
  pk_cb (cr_sum hc) (fun F H σ vs ds q Q ex rv hq w => by
    unfold dSum at hq
    split at hq
    · rename_i xs
      cases ei : intsOf xs with
      | none => rw [ei] at hq; cases hq
      | some ns =>
        rw [ei] at hq
        cases (Option.some.inj hq)
        obtain ⟨v, rfl, r1⟩ := rkl1 rv
        obtain ⟨a, rfl, s⟩ := rk_ints ex r1 ei
        exact ⟨_, _, rfl, s, w.val ex (.int _) (by decide)⟩
    · cases hq) (fun ds y q => by
    unfold dSum at q
    split at q
    · simp at q
    · cases q) hm (by decide +kernel) hg ha (he := he)
theorem pk_maxL (hc : X.calm = true) (hm : X.mg "max" = none) (hg : Gl X "max") (ha : PA X [e] (tA X.K x .bw fs)) (he : starEach [e] X.env = (false, eval e X.env) :: starEach [] X.env := by rfl) : PE X (.Call (.Name "max" p) [e] [] pos) (tK X.K x .fz (eCall dMaxL fs)) :=
  pk_cb (cr_max hc) (fun F H σ vs ds q Q ex rv hq w => by
    unfold dMaxL at hq
    split at hq
    · rename_i xs
      split at hq
      · rename_i ns ei
        split at hq
        · rename_i h0
          cases (Option.some.inj hq)
          obtain ⟨v, rfl, r1⟩ := rkl1 rv
          obtain ⟨a, rfl, s⟩ := rk_ints ex r1 ei
          refine ⟨_, _, rfl, s, h0, fun m hm hle => ?_⟩
          rw [maxL_is hm hle]
          exact w.val ex (.int _) (by decide)
        · cases hq
      · cases hq
    · cases hq) (fun ds y q => by
    unfold dMaxL at q
    split at q
    · split at q
      · split at q <;> cases q
      · cases q
    · cases q) hm (by decide +kernel) hg ha (he := he)
def dAll (ds : List D) : EM D := match ds with
  | [.lst xs] => (blsOf xs).map fun ns => .ok (.bl (ns.all id))
  | _ => none
def dAny (ds : List D) : EM D := match ds with
  | [.lst xs] => (blsOf xs).map fun ns => .ok (.bl (ns.any id))
  | _ => none
theorem pk_all (hc : X.calm = true) (hm : X.mg "all" = none) (hg : Gl X "all") (ha : PA X [e] (tA X.K x .bw fs)) (he : starEach [e] X.env = (false, eval e X.env) :: starEach [] X.env := by rfl) : PE X (.Call (.Name "all" p) [e] [] pos) (tK X.K x .fz (eCall dAll fs)) :=
  pk_cb (cr_all hc) (fun F H σ vs ds q Q ex rv hq w => by
    unfold dAll at hq
    split at hq
    · rename_i xs
      cases ei : blsOf xs with
      | none => rw [ei] at hq; cases hq
      | some ns =>
        rw [ei] at hq
        cases (Option.some.inj hq)
        obtain ⟨v, rfl, r1⟩ := rkl1 rv
        obtain ⟨a, rfl, s⟩ := rk_bls ex r1 ei
        exact ⟨_, _, rfl, s, w.val ex (.bl _) (by decide)⟩
    · cases hq) (fun ds y q => by
    unfold dAll at q
    split at q
    · simp at q
    · cases q) hm (by decide +kernel) hg ha (he := he)
theorem pk_anyL (hc : X.calm = true) (hm : X.mg "any" = none) (hg : Gl X "any") (ha : PA X [e] (tA X.K x .bw fs)) (he : starEach [e] X.env = (false, eval e X.env) :: starEach [] X.env := by rfl) : PE X (.Call (.Name "any" p) [e] [] pos) (tK X.K x .fz (eCall dAny fs)) :=
  pk_cb (cr_any hc) (fun F H σ vs ds q Q ex rv hq w => by
    unfold dAny at hq
    split at hq
    · rename_i xs
      cases ei : blsOf xs with
      | none => rw [ei] at hq; cases hq
      | some ns =>
        rw [ei] at hq
        cases (Option.some.inj hq)
        obtain ⟨v, rfl, r1⟩ := rkl1 rv
        obtain ⟨a, rfl, s⟩ := rk_bls ex r1 ei
        exact ⟨_, _, rfl, s, w.val ex (.bl _) (by decide)⟩
    · cases hq) (fun ds y q => by
    unfold dAny at q
    split at q
    · simp at q
    · cases q) hm (by decide +kernel) hg ha (he := he)
/-! ### str, int, tuple, list, divmod -/
def dStr (ds : List D) : EM D := match ds with
  | [.int i] => if i.natAbs.log2 < 1920 then ok (.str (toString i)) else none
  | _ => none
theorem pk_str1 (hm : X.mg "str" = none) (hg : Gl X "str") (ha : PA X [e] (tA X.K x .bw fs)) (he : starEach [e] X.env = (false, eval e X.env) :: starEach [] X.env := by rfl) : PE X (.Call (.Name "str" p) [e] [] pos) (tK X.K x .fz (eCall dStr fs)) :=
  pk_ct call_str_int (fun F H σ vs ds q Q ex rv hq w => by
    unfold dStr at hq
    split at hq
    · split at hq
      · rename_i hl
        cases (Option.some.inj hq)
        obtain ⟨v, rfl, r1⟩ := rkl1 rv
        rw [rk_int r1]
        exact ⟨_, rfl, hl, w.val ex (.str _) (by decide)⟩
      · cases hq
    · cases hq) (fun ds y q => by
    unfold dStr at q
    split at q
    · split at q <;> cases q
    · cases q) hm (by decide +kernel) hg ha (he := he)
def dInt (ds : List D) : EM D := match ds with
  | [.int i] => ok (.int i)
  | [.bl b] => ok (.int (if b then 1 else 0))
  | [.str z] => match PySem.intText? z with
    | some n => if z.length ≤ 640 then ok (.int n) else none
    | none => none
  | _ => none
theorem pk_int1 (hm : X.mg "int" = none) (hg : Gl X "int") (ha : PA X [e] (tA X.K x .bw fs)) (he : starEach [e] X.env = (false, eval e X.env) :: starEach [] X.env := by rfl) : PE X (.Call (.Name "int" p) [e] [] pos) (tK X.K x .fz (eCall dInt fs)) :=
  pk_ct (call_int1.or call_int_str) (fun F H σ vs ds q Q ex rv hq w => by
    unfold dInt at hq
    split at hq
    · cases (Option.some.inj hq)
      obtain ⟨v, rfl, r1⟩ := rkl1 rv
      rw [rk_int r1]
      exact .inl (.inl ⟨_, rfl, w.val ex (.int _) (by decide)⟩)
    · cases (Option.some.inj hq)
      obtain ⟨v, rfl, r1⟩ := rkl1 rv
      rw [rk_bl r1]
      exact .inl (.inr ⟨_, rfl, w.val ex (.int _) (by decide)⟩)
    · split at hq
      · rename_i n hn
        split at hq
        · rename_i hl
          cases (Option.some.inj hq)
          obtain ⟨v, rfl, r1⟩ := rkl1 rv
          rw [rk_str r1]
          exact .inr ⟨_, _, rfl, hn, hl, w.val ex (.int _) (by decide)⟩
        · cases hq
      · cases hq
    · cases hq) (fun ds y q => by
    unfold dInt at q
    split at q <;> first
      | cases q
      | (split at q
         · split at q <;> cases q
         · cases q)) hm (by decide +kernel) hg ha (he := he)
def dTuple (ds : List D) : EM D := match ds with
  | [.lst xs] => ok (.tup xs)
  | [.tup xs] => ok (.tup xs)
  | _ => none
theorem pk_tuple (hm : X.mg "tuple" = none) (hg : Gl X "tuple") (ha : PA X [e] (tA X.K x .bw fs)) (he : starEach [e] X.env = (false, eval e X.env) :: starEach [] X.env := by rfl) : PE X (.Call (.Name "tuple" p) [e] [] pos) (tK X.K x .fz (eCall dTuple fs)) :=
  pk_ct call_tuple_of (fun F H σ vs ds q Q ex rv hq w => by
    unfold dTuple at hq
    split at hq
    · cases (Option.some.inj hq)
      obtain ⟨v, rfl, r1⟩ := rkl1 rv
      obtain ⟨p, vs, rfl, h1, q1⟩ := r1.lst ex
      exact ⟨_, _, rfl, .inl ⟨.of h1, w.newT ex q1 (by decide)⟩⟩
    · cases (Option.some.inj hq)
      obtain ⟨v, rfl, r1⟩ := rkl1 rv
      obtain ⟨p, vs, rfl, h1, q1⟩ := rk_tup r1
      exact ⟨_, _, rfl, .inr ⟨.of (ex _ _ h1), w.val ex (.tup h1 q1) (by decide)⟩⟩
    · cases hq) (fun ds y q => by
    unfold dTuple at q
    split at q <;> cases q) hm (by decide +kernel) hg ha (he := he)
def dList (ds : List D) : EM D := match ds with
  | [.lst xs] => ok (.lst xs)
  | [.tup xs] => ok (.lst xs)
  | [.scr ns] => ok (.lst (ns.map D.int))
  | _ => none
theorem pk_list (hm : X.mg "list" = none) (hg : Gl X "list") (ha : PA X [e] (tA X.K x .bw fs)) (he : starEach [e] X.env = (false, eval e X.env) :: starEach [] X.env := by rfl) : PE X (.Call (.Name "list" p) [e] [] pos) (tK X.K x k (eCall dList fs)) :=
  pk_ct call_list_of (fun F H σ vs ds q Q ex rv hq w => by
    unfold dList at hq
    split at hq
    · cases (Option.some.inj hq)
      obtain ⟨v, rfl, r1⟩ := rkl1 rv
      obtain ⟨p, vs, rfl, h1, q1⟩ := r1.lst ex
      exact ⟨_, _, rfl, .inl (.of h1), w.newL ex q1⟩
    · cases (Option.some.inj hq)
      obtain ⟨v, rfl, r1⟩ := rkl1 rv
      obtain ⟨p, vs, rfl, h1, q1⟩ := rk_tup r1
      exact ⟨_, _, rfl, .inr (.of (ex _ _ h1)), w.newL ex q1⟩
    · cases (Option.some.inj hq)
      obtain ⟨v, rfl, r1⟩ := rkl1 rv
      obtain ⟨p, rfl, h1⟩ := rk_scr r1
      exact ⟨_, _, rfl, .inl (ex.sqL h1), w.newL ex (.ints _)⟩
    · cases hq) (fun ds y q => by
    unfold dList at q
    split at q <;> cases q) hm (by decide +kernel) hg ha (he := he)
def dDivmod (ds : List D) : EM D := match ds with
  | [.int i, .int j] => if cDiv i j = true then ok (.tup [.int (i / j), .int (i % j)]) else none
  | _ => none
theorem pk_divmod {e2 : Expr} (hm : X.mg "divmod" = none) (hg : Gl X "divmod") (ha : PA X [e, e2] (tA X.K x .bw fs)) (he : starEach [e, e2] X.env = (false, eval e X.env) :: starEach [e2] X.env := by rfl) (hpl : (backTo pos (starEach [e2] X.env)).any (·.1) = false := by rfl) : PE X (.Call (.Name "divmod" p) [e, e2] [] pos) (tK X.K x .fz (eCall dDivmod fs)) :=
  pk_cb call_divmod (fun F H σ vs ds q Q ex rv hq w => by
    unfold dDivmod at hq
    split at hq
    · split at hq
      · rename_i hd
        cases (Option.some.inj hq)
        obtain ⟨v, u, rfl, r1, r2⟩ := rkl2 rv
        rw [rk_int r1, rk_int r2]
        unfold cDiv at hd
        simp only [Bool.and_eq_true, decide_eq_true_eq] at hd
        exact ⟨_, _, rfl, hd, w.newT ex (.cons (.int _) (.one (.int _))) (by decide)⟩
      · cases hq
    · cases hq) (fun ds y q => by
    unfold dDivmod at q
    split at q
    · split at q <;> cases q
    · cases q) hm (by decide +kernel) hg ha (he := he) (hpl := hpl)

/-! ### isinstance -/
inductive Tag where
  | non | bl | int | str | lst | tup | dct | obj (c : Cl)
  deriving DecidableEq
def tagOf : D → Tag
  | .non => .non
  | .bl _ => .bl
  | .int _ => .int
  | .str _ => .str
  | .lst _ => .lst
  | .tup _ => .tup
  | .obj c _ => .obj c
  | .scr _ => .lst
  | .ord _ => .dct
def tagV (A : Ad) : Tag → Value
  | .non => .type "NoneType"
  | .bl => .type "bool"
  | .int => .type "int"
  | .str => .type "str"
  | .lst => .type "list"
  | .tup => .type "tuple"
  | .dct => .type "dict"
  | .obj c => .ref (A.cl c)
theorem tyX_sqL {K : PySem.W.Frag} {H : Hp} {a : Addr} {xs : List V} (h : SqL K H a xs) : TyX K H (.ref a) (.type "list") := by
  rcases h with (h | ⟨o, h⟩) | ⟨o, its, n, hk, hc, _⟩
  · exact .base (.lst h)
  · exact .base (.frz h)
  · exact .kList hk hc
theorem tyX_of {K : PySem.W.Frag} {A : Ad} (T : ClsF K A) {F H H0 : Hp} {v : V} {d : D} (e : Ex F H) (h : RK K A .bw F H0 H v d) : TyX K H v (tagV A (tagOf d)) ∧ ∀ c, tagOf d = .obj c → A.has c = true := by
  have r := h.all e
  cases r with
  | non => exact ⟨.base .non, fun c q => by cases q⟩
  | bl b => exact ⟨.base (.bl b), fun c q => by cases q⟩
  | int b => exact ⟨.base (.int b), fun c q => by cases q⟩
  | str b => exact ⟨.base (.str b), fun c q => by cases q⟩
  | lst h1 _ => exact ⟨.base (.lst h1), fun c q => by cases q⟩
  | tup h1 _ => exact ⟨.base (.tup h1), fun c q => by cases q⟩
  | obj g h1 _ _ => exact ⟨.base (.ins h1 (T.cls _ g) (T.ca _ g) T.sp T.tk (T.mro _ g)), fun c q => by cases q; exact g⟩
  | scr h1 => exact ⟨tyX_sqL h1, fun c q => by cases q⟩
  | ord h1 => exact ⟨.base (.dK h1), fun c q => by cases q⟩
/-- what isinstance answers for one class, by the tag -/
def IsTab (K : PySem.W.Frag) (A : Ad) (u : Value) (tab : Tag → Option Bool) : Prop := ∀ t b, tab t = some b → (∀ c, t = .obj c → A.has c = true) → PySem.W.kitOne K (tagV A t) u = some b
def dIs (tab : Tag → Option Bool) (d : D) : EM D := (tab (tagOf d)).map fun b => .ok (.bl b)
theorem pk_is {c : Expr} {cv : V} {u : Value} {tab : Tag → Option Bool} (T : ClsF X.K x.A) (tb : IsTab X.K x.A u tab) (cu : ClsV cv u) (hm : X.mg "isinstance" = none) (hg : Gl X "isinstance") (hc : PE X c (tC cv)) (ha : PE X e (tK X.K x .bw f))
    (he : starEach [e, c] X.env = (false, eval e X.env) :: starEach [c] X.env := by rfl) (he2 : starEach [c] X.env = (false, eval c X.env) :: starEach [] X.env := by rfl) (hpl : (backTo pos (starEach [c] X.env)).any (·.1) = false := by rfl) :
    PE X (.Call (.Name "isinstance" p) [e, c] [] pos) (tK X.K x .fz (e1 (dIs tab) f)) :=
  pe_wk (pe_callB call_isi hg hm (by decide +kernel) (pa_cons ha (pa_cons hc pa_nil he2) he) (he := he) (hpl := hpl)) fun σ H Q ⟨F, ρ, r, S, e, w⟩ =>
    tk_step S e w.x fun d F1 H1 v G1 S1 r1 e1 => by
      unfold dIs at e1
      cases et : tab (tagOf d) with
      | none => rw [et] at e1; cases e1
      | some b =>
        rw [et] at e1
        cases (Option.some.inj e1)
        obtain ⟨ty, hh⟩ := tyX_of T S1.fh r1
        exact ⟨_, _, _, _, b, rfl, cu, ty, tb _ _ et hh, (w.grow G1).val S1.fh (.bl _) (by decide)⟩

/-! ### methods of texts -/
def eMt (h : D → List D → EM D) (g : Ro → EM D) (fs : Ro → EM (List D)) : Ro → EM D := fun ρ => bnd (g ρ) fun d => match d with
  | .str z => bnd (fs ρ) fun ds => h (.str z) ds
  | _ => none
def Mb (K : PySem.W.Frag) (x : Fx) (k : Kd) (r : V → List V → Hp → VK → Prop) (h : D → List D → EM D) : Prop := ∀ (F H : Hp) (σ : L2.St) (z : Str) (vs : List V) (ds : List D) (q : D) (Q : VK),
  Ex F H → RKL K x.A .bw F H H vs ds → h (.str z) ds = some (.ok q) → Wd K x k (.ok q) F H σ Q → r (.str z) vs H Q
def NoXm (h : D → List D → EM D) : Prop := ∀ d ds y, h d ds ≠ some (.error y)
theorem pk_mt {mid : String} {hh : D → List D → EM D} {rr : V → List V → Hp → VK → Prop} (slot : Slot "str" nm mid) (hty : typeOf (.builtin mid) = pure (.type "method_descriptor")) (hm : MtR X mid rr) (mb : Mb X.K x k rr hh) (nx : NoXm hh) (ho : PE X o (tK X.K x .bw g)) (ha : PA X (e :: es) (tA X.K x .bw fs))
    (hbase : attributeBase o nm X.env (eval o X.env) = eval o X.env := by rfl)
    (hfew : ((backTo pos (starEach (e :: es) X.env)).all (fun x => !x.1) && (backToKw pos (keywordEach [] X.env)).all (fun x => x.1.isSome)
      && decide ((e :: es).length + ([] : List Keyword).length + (if ([] : List Keyword).isEmpty then 0 else 1) < 30)) = true := by rfl)
    (hline : (apos.endLine == pos.line) = true := by rfl) (hs : starEach (e :: es) X.env = (false, eval e X.env) :: starEach es X.env := by rfl) (hplain : (backTo pos (starEach es X.env)).any (·.1) = false := by rfl) :
    PE X (.Call (.Attribute o nm apos) (e :: es) [] pos) (tK X.K x k (eMt hh g fs)) :=
  pe_wk (pe_bm PySem.F.plainAttrs_str slot hty hm ho ha hbase hfew hline hs hplain) fun σ H Q ⟨F, ρ, r, S, e, w⟩ =>
    tk_step S e w.x fun d F1 H1 v G1 S1 r1 e1 => by
      split at e1
      · rw [rk_str r1]
        refine ⟨rfl, ta_step S1 e1 (fun y hy => Wx.grow (K := X.K) G1 (w.x y hy)) fun ds F2 H2 vs G2 S2 r2 e2 => ?_⟩
        cases r with
        | error y => exact absurd e2 (nx _ _ _)
        | ok q => exact mb F2 H2 σ _ vs ds q Q S2.fh r2.bw0 e2 (w.grow (G1.trans G2))
      · cases e1
def dStr1 (c : Str → Str → Bool) (fn : Str → Str → D) (d : D) (ds : List D) : EM D := match d, ds with
  | .str a, [.str b] => if c a b = true then ok (fn a b) else none
  | _, _ => none
theorem nx_str1 {c : Str → Str → Bool} {fn : Str → Str → D} : NoXm (dStr1 c fn) := fun d ds y q => by
  unfold dStr1 at q
  split at q
  · split at q <;> cases q
  · cases q
def cLine (a _ : Str) : Bool := decide (a.length ≤ sizeLine)
def dStrip := dStr1 cLine fun a b => .str (PySem.Txt.stripChars a b)
def dRstrip := dStr1 cLine fun a b => .str (PySem.Txt.rstripChars a b)
def dStarts := dStr1 (fun _ _ => true) fun a b => .bl (PySem.Txt.startswith a b)
def dSplit := dStr1 (fun a b => (b.length != 0) && decide (a.length + 2 ≤ sizeLine)) fun a b => .lst ((PySem.Txt.split a b).map D.str)
end
end Tw
/-! TwG: targets, loops, comprehensions, lists of one's own changed. -/
namespace Tw
open PySem PySem.Spec PyProof.Rows L2

/-! ### targets -/
abbrev Tg := D → Ro → Option Ro
abbrev Tgs := List D → Ro → Option Ro
def tG (K : PySem.W.Frag) (x : Fx) (sl : List Nat) (t : Tg) : TG := fun v σ H Q => ∃ F ρ d ρ', SR K x.A x.T x.B x.F0 F H σ ρ ∧ Rep K x.A F v d ∧ t d ρ = some ρ' ∧
  ∀ σ', SR K x.A x.T x.B x.F0 F H σ' ρ' → σ'.length = σ.length → (∀ j, j ∉ sl → σ'[j]? = σ[j]?) → Q σ' H
def tGs (K : PySem.W.Frag) (x : Fx) (sl : List Nat) (t : Tgs) : TGs := fun vs σ H Q => ∃ F ρ ds ρ', SR K x.A x.T x.B x.F0 F H σ ρ ∧ RepL K x.A F vs ds ∧ t ds ρ = some ρ' ∧
  ∀ σ', SR K x.A x.T x.B x.F0 F H σ' ρ' → σ'.length = σ.length → (∀ j, j ∉ sl → σ'[j]? = σ[j]?) → Q σ' H
def gN (i : Nat) : Tg := fun d ρ => some (ρ.set i (.fz d))
def gT (t : Tgs) (n : Nat) : Tg := fun d ρ => match d with
  | .tup ds => if ds.length = n then t ds ρ else none
  | _ => none
def gs0 : Tgs := fun ds ρ => match ds with
  | [] => some ρ
  | _ => none
def gsC (t : Tg) (u : Tgs) : Tgs := fun ds ρ => match ds with
  | d :: ds => (t d ρ).bind (u ds)
  | [] => none
section
variable {X : Cx} {x : Fx} {a b : Expr} {es : List Expr} {pos : Pos} {t : Tg} {u : Tgs} {s1 s2 : List Nat}
theorem pg_wk {e : Expr} {t t' : TG} (h : PG X e t) (w : ∀ v σ H Q, t' v σ H Q → t v σ H Q) : PG X e t' := ⟨fun pins s σ H v u Q I r q => h.run pins s σ H v u Q I r (w v σ H Q q)⟩
theorem pgs_wk {es : List Expr} {t t' : TGs} (h : PGs X es t) (w : ∀ v σ H Q, t' v σ H Q → t v σ H Q) : PGs X es t' := ⟨fun pins s σ H v u Q I r q => h.run pins s σ H v u Q I r (w v σ H Q q)⟩
theorem pgd_name {i : Nat} (h : PG X a (gName i)) : PG X a (tG X.K x [i] (gN i)) := pg_wk h fun v σ H Q ⟨F, ρ, d, ρ', S, r, e, q⟩ => by
  cases (Option.some.inj e)
  refine q _ (S.setF r) (by rw [List.length_set]) fun j hj => ?_
  rw [List.getElem?_set_ne]
  intro z
  exact hj (by simp [z])
theorem pgsd_nil : PGs X [] (tGs X.K x [] gs0) := pgs_wk pgs_nil fun v σ H Q ⟨F, ρ, ds, ρ', S, r, e, q⟩ => by
  unfold gs0 at e
  split at e
  · cases (Option.some.inj e)
    cases r
    exact ⟨rfl, q σ S rfl fun _ _ => rfl⟩
  · cases e
theorem pgsd_cons (h1 : PG X a (tG X.K x s1 t)) (h2 : PGs X es (tGs X.K x s2 u)) (hs : (assignEach (a :: es) X.env).map (·.2) = assign a X.env :: (assignEach es X.env).map (·.2) := by rfl) : PGs X (a :: es) (tGs X.K x (s1 ++ s2) (gsC t u)) := pgs_wk (pgs_cons h1 h2 hs) fun v σ H Q ⟨F, ρ, ds, ρ', S, r, e, q⟩ => by
  unfold gsC at e
  cases ds with
  | nil => cases e
  | cons d ds =>
    cases r with
    | @cons v vs _ _ r rr =>
      simp only at e
      cases et : t d ρ with
      | none => rw [et] at e; cases e
      | some ρ1 =>
        rw [et] at e
        refine ⟨v, vs, rfl, F, ρ, d, ρ1, S, r, et, fun σ1 S1 l1 k1 => ⟨F, ρ1, ds, ρ', S1, rr, e, fun σ2 S2 l2 k2 => q σ2 S2 (l2.trans l1) fun j hj => ?_⟩⟩
        simp only [List.mem_append, not_or] at hj
        exact (k2 j hj.2).trans (k1 j hj.1)
theorem pgd_tup {k n : Nat} (hc : X.calm = true) (h : PGs X es (tGs X.K x s1 u)) (hn : (assignEach es X.env).length = n := by rfl) (hst : (assignEach es X.env).findIdx? (·.1) = none := by rfl) : PG X (.Tuple es k pos) (tG X.K x s1 (gT u n)) := pg_wk (pg_tup hc h hn hst) fun v σ H Q ⟨F, ρ, d, ρ', S, r, e, q⟩ => by
  unfold gT at e
  split at e
  · split at e
    · rename_i hl
      cases r with
      | tup h1 rr => exact ⟨_, _, rfl, .of (S.fh _ _ h1), by rw [rr.length]; exact hl, F, ρ, _, ρ', S, rr, e, q⟩
    · cases e
  · cases e
/-- a, b = e -/
def sUnp (t : Tg) (f : Ro → EM D) : Ro → Option Fl := fun ρ => toS ρ (f ρ) fun d => (t d ρ).map .nx
theorem pks_unp {f : Ro → EM D} {st : Stmt} (hst : ∀ te g, PE X a te → PG X b g → PS X st (tAsg te g)) (he : PE X a (tK X.K x .fz f)) (hg : PG X b (tG X.K x s1 t)) : PS X st (tS X.K x (sUnp t f)) := ps_wk (hst _ _ he hg) fun E σ H ⟨F, ρ, fl, S, e, w⟩ =>
  ts_step S e w fun d F' H' v G S' r e' w' => by
    cases et : t d ρ with
    | none => rw [et] at e'; cases e'
    | some ρ1 =>
      rw [et] at e'
      cases (Option.some.inj e')
      exact ⟨F', ρ, d, ρ1, S', r, et, fun σ' S2 _ _ => w' F' H' σ' (.refl _) S2⟩
/-- a, b = x, y -/
def sPar (i j : Nat) (fs : Ro → EM (List D)) : Ro → Option Fl := fun ρ => toS ρ (fs ρ) fun ds => match ds with
  | [d, e] => some (.nx ((ρ.set i (.fz d)).set j (.fz e)))
  | _ => none
theorem tas_step {K : PySem.W.Frag} {k : Kd} {f : Ro → EM (List D)} {g : List D → Option Fl} {fl : Fl} {F H : Hp} {σ : L2.St} {ρ : Ro} {E : Ends} {Q : List V → Hp → Prop} (S : SR K x.A x.T x.B x.F0 F H σ ρ) (e : toS ρ (f ρ) g = some fl) (w : WdS K x fl F E)
    (hk : ∀ d F' H' v, Grow F H F' H' → SR K x.A x.T x.B x.F0 F' H' σ ρ → RKL K x.A k F' H H' v d → g d = some fl → WdS K x fl F' E → Q v H') : tA K x k f σ H Q := by
  unfold toS at e
  cases ef : f ρ with
  | none => rw [ef] at e; cases e
  | some q =>
    rw [ef] at e
    cases q with
    | error y =>
      cases (Option.some.inj e)
      exact ⟨F, ρ, .error y, S, ef, WdS.wx S w⟩
    | ok d => exact ⟨F, ρ, .ok d, S, ef, fun F' H' v G r' => hk d F' H' v G (S.grow G) r' e (w.mono G.f)⟩
theorem pks_par {i j : Nat} {fs : Ro → EM (List D)} {st : Stmt} (hst : ∀ ta, PA X [a, b] ta → PS X st (tPar i j ta)) (ha : PA X [a, b] (tA X.K x .fz fs)) : PS X st (tS X.K x (sPar i j fs)) := ps_wk (hst _ ha) fun E σ H ⟨F, ρ, fl, S, e, w⟩ =>
  tas_step S e w fun ds F' H' vs G S' r e' w' => by
    split at e'
    · cases (Option.some.inj e')
      obtain ⟨v, u, rfl, r1, r2⟩ := rkl2 r
      exact ⟨v, u, rfl, w' F' H' _ (.refl _) ((S'.setF r1).setF r2)⟩
    · cases e'
def sPar3 (i j l : Nat) (fs : Ro → EM (List D)) : Ro → Option Fl := fun ρ => toS ρ (fs ρ) fun ds => match ds with
  | [d, e, c] => some (.nx (((ρ.set i (.fz d)).set j (.fz e)).set l (.fz c)))
  | _ => none
theorem pks_par3 {i j l : Nat} {c : Expr} {fs : Ro → EM (List D)} {st : Stmt} (hst : ∀ ta, PA X [a, b, c] ta → PS X st (tPar3 i j l ta)) (ha : PA X [a, b, c] (tA X.K x .fz fs)) : PS X st (tS X.K x (sPar3 i j l fs)) := ps_wk (hst _ ha) fun E σ H ⟨F, ρ, fl, S, e, w⟩ =>
  tas_step S e w fun ds F' H' vs G S' r e' w' => by
    split at e'
    · cases (Option.some.inj e')
      cases r with
      | cons r1 r => cases r with
        | cons r2 r => cases r with
          | cons r3 r =>
            cases r
            exact ⟨_, _, _, rfl, w' F' H' _ (.refl _) (((S'.setF r1).setF r2).setF r3)⟩
    · cases e'
/-- name op= e -/
def sAug (i : Nat) (h : D → D → EM D) (f : Ro → EM D) : Ro → Option Fl := fun ρ => match ρ[i]? with
  | some (.fz d) => toS ρ (f ρ) fun e => toS ρ (h d e) fun z => some (.nx (ρ.set i (.fz z)))
  | _ => none
theorem pks_aug {i : Nat} {f : Ro → EM D} {h : D → D → EM D} {r : R2} {st : Stmt} (hr : Op2 X.K x .fz r h) (hn : NoX h) (hst : ∀ te, PE X a te → PS X st (tAug i te r)) (ha : PE X a (tK X.K x .bw f)) : PS X st (tS X.K x (sAug i h f)) := ps_wk (hst _ ha) fun E σ H ⟨F, ρ, fl, S, e, w⟩ => by
  unfold sAug at e
  split at e
  · rename_i d ed
    obtain ⟨v, hv, rv⟩ := S.fz i d ed
    refine ⟨v, hv, ts_step S e w fun c F1 H1 u G S1 ru e1 w1 => ?_⟩
    unfold toS at e1
    cases eh : h d c with
    | none => rw [eh] at e1; cases e1
    | some q =>
      rw [eh] at e1
      cases q with
      | error y => exact absurd eh (hn _ _ _)
      | ok z =>
        cases (Option.some.inj e1)
        exact hr F1 H1 σ v u d c z _ S1.fh (.inl (rv.mono G.f)) ru eh fun F2 H2 y G2 r2 => w1 F2 H2 _ G2.f ((S1.grow G2).setF r2)
  · cases e

/-! ### lists of one's own -/
/-- xs.append(e) -/
def sApp (i : Nat) (f : Ro → EM D) : Ro → Option Fl := fun ρ => toS ρ (f ρ) fun d => match ρ[i]? with
  | some (.ow ds) => if ds.length < sizeLine then some (.nx (ρ.set i (.ow (ds ++ [d])))) else none
  | _ => none
/-- whether a slot has a list of its own -/
def isOw (i : Nat) (ρ : Ro) : Bool := match ρ[i]? with
  | some (.ow _) => true
  | _ => false
theorem isOw_some {i : Nat} {ρ : Ro} (h : isOw i ρ = true) : ∃ ds, ρ[i]? = some (.ow ds) := by
  unfold isOw at h
  split at h
  · exact ⟨_, by assumption⟩
  · cases h
def gdO (i : Nat) (g : Ro → Option Fl) : Ro → Option Fl := fun ρ => if isOw i ρ = true then g ρ else none
theorem pks_app {i : Nat} {f : Ro → EM D} {st : Stmt} (hst : ∀ te ta, PE X a te → PA X [b] ta → PS X st (tDrop (tBM X.K "list" rAppend te ta))) (ha : PE X a (tVar i)) (hb : PE X b (tK X.K x .fz f)) (hs : starEach [b] X.env = (false, eval b X.env) :: starEach [] X.env := by rfl) : PS X st (tS X.K x (gdO i (sApp i f))) :=
  ps_wk (hst _ _ ha (pa_cons hb pa_nil hs)) fun E σ H ⟨F, ρ, fl, S, e, w⟩ => by
    unfold gdO at e
    split at e
    · rename_i ho
      obtain ⟨ds, eo⟩ := isOw_some ho
      obtain ⟨l, vs, h1, h2, h3, h4, h5⟩ := S.ow i ds eo
      refine ⟨_, h1, .inl ⟨rfl, _, .of h4⟩, ?_⟩
      exact ts_step S e w fun d F1 H1 v G S1 r e1 w1 => by
        rw [eo] at e1
        simp only at e1
        split at e1
        · rename_i hz
          cases (Option.some.inj e1)
          refine ⟨l, vs, v, rfl, rfl, G.h _ _ h4, by rw [h5.length]; exact hz, w1 _ _ _ (.refl _) (S1.write eo h1 ((h5.mono G.f).app (.one r)))⟩
        · cases e1
    · cases e
/-- xs.extend(ys) -/
def sExt (i : Nat) (f : Ro → EM D) : Ro → Option Fl := fun ρ => toS ρ (f ρ) fun d => match ρ[i]?, d with
  | some (.ow ds), .lst es => if ds.length + es.length ≤ sizeLine then some (.nx (ρ.set i (.ow (ds ++ es)))) else none
  | _, _ => none
theorem pks_ext {i : Nat} {f : Ro → EM D} {st : Stmt} (hst : ∀ te ta, PE X a te → PA X [b] ta → PS X st (tDrop (tBM X.K "list" rExtend te ta))) (ha : PE X a (tVar i)) (hb : PE X b (tK X.K x .bw f)) (hs : starEach [b] X.env = (false, eval b X.env) :: starEach [] X.env := by rfl) : PS X st (tS X.K x (gdO i (sExt i f))) :=
  ps_wk (hst _ _ ha (pa_cons hb pa_nil hs)) fun E σ H ⟨F, ρ, fl, S, e, w⟩ => by
    unfold gdO at e
    split at e
    · rename_i ho
      obtain ⟨ds, eo⟩ := isOw_some ho
      obtain ⟨l, vs, h1, h2, h3, h4, h5⟩ := S.ow i ds eo
      refine ⟨_, h1, .inl ⟨rfl, _, .of h4⟩, ?_⟩
      exact ts_step S e w fun d F1 H1 v G S1 r e1 w1 => by
        split at e1
        · rename_i ds' es eo'
          rw [eo] at eo'
          cases (Option.some.inj eo')
          split at e1
          · rename_i hz
            cases (Option.some.inj e1)
            obtain ⟨p, ws, rfl, q1, q2⟩ := r.lst S1.fh
            exact ⟨l, p, vs, ws, rfl, rfl, G.h _ _ h4, q1, by rw [h5.length, q2.length]; exact hz, w1 _ _ _ (.refl _) (S1.write eo h1 ((h5.mono G.f).app q2))⟩
          · cases e1
        · cases e1
    · cases e
/-- xs.clear() -/
def sClear (i : Nat) : Ro → Option Fl := fun ρ => match ρ[i]? with
  | some (.ow _) => some (.nx (ρ.set i (.ow [])))
  | _ => none
theorem pks_clear {i : Nat} {st : Stmt} (hst : ∀ te, PE X a te → PS X st (tDrop (tBM0 X.K "list" rClear te))) (ha : PE X a (tVar i)) : PS X st (tS X.K x (sClear i)) := ps_wk (hst _ ha) fun E σ H ⟨F, ρ, fl, S, e, w⟩ => by
  unfold sClear at e
  split at e
  · rename_i ds eo
    cases (Option.some.inj e)
    obtain ⟨l, vs, h1, h2, h3, h4, h5⟩ := S.ow i ds eo
    exact ⟨_, h1, .inl ⟨rfl, _, .of h4⟩, l, vs, rfl, rfl, h4, w _ _ _ (.refl _) (S.write eo h1 .nil)⟩
  · cases e
/-- xs[j] = e -/
def sSetI (i : Nat) (f g : Ro → EM D) : Ro → Option Fl := fun ρ => toS ρ (f ρ) fun d => toS ρ (g ρ) fun j => match ρ[i]?, j with
  | some (.ow ds), .int j => match ixN ds.length j with
    | some n => some (.nx (ρ.set i (.ow (ds.set n d))))
    | none => none
  | _, _ => none
theorem pks_setI {i : Nat} {f g : Ro → EM D} {c : Expr} {st : Stmt} (hst : ∀ te to ti, PE X c te → PE X a to → PE X b ti → PS X st (tAsg te (gSub to ti rSetL))) (ha : PE X a (tVar i)) (hc : PE X c (tK X.K x .fz f)) (hb : PE X b (tK X.K x .bw g)) : PS X st (tS X.K x (gdO i (sSetI i f g))) :=
  ps_wk (hst _ _ _ hc ha hb) fun E σ H ⟨F, ρ, fl, S, e, w⟩ => by
    unfold gdO at e
    split at e
    · rename_i ho
      obtain ⟨ds, eo⟩ := isOw_some ho
      obtain ⟨l, vs, h1, h2, h3, h4, h5⟩ := S.ow i ds eo
      exact ts_step S e w fun d F1 H1 v G S1 r e1 w1 => ⟨_, h1, ts_step S1 e1 w1 fun j F2 H2 u G2 S2 r2 e2 w2 => by
        split at e2
        · rename_i ds' j eo'
          rw [eo] at eo'
          cases (Option.some.inj eo')
          split at e2
          · rename_i n hn
            cases (Option.some.inj e2)
            rw [rk_int r2]
            exact ⟨l, vs, _, n, rfl, rfl, G2.h _ _ (G.h _ _ h4), by rw [h5.length]; exact hn, w2 _ _ _ (.refl _) (S2.write eo h1 (((h5.mono G.f).mono G2.f).set n (Rep.mono G2.f r)))⟩
          · cases e2
        · cases e2⟩
    · cases e
/-- an expression whose value is dropped -/
def sDrop (f : Ro → EM D) : Ro → Option Fl := fun ρ => toS ρ (f ρ) fun _ => some (.nx ρ)
theorem pks_drop {f : Ro → EM D} {k : Kd} {st : Stmt} (hst : ∀ te, PE X a te → PS X st (tDrop te)) (ha : PE X a (tK X.K x k f)) : PS X st (tS X.K x (sDrop f)) := ps_wk (hst _ ha) fun E σ H ⟨F, ρ, fl, S, e, w⟩ =>
  ts_step S e w fun d F1 H1 v G S1 r e1 w1 => by
    cases (Option.some.inj e1)
    exact w1 _ _ _ (.refl _) S1

/-! ### what is walked -/
structure ItD (K : PySem.W.Frag) (A : Ad) (J : It) (F : Hp) (ds : List D) : Prop where
  go : ∀ (i : Nat) d H, Ex F H → ds[i]? = some d → J.go i H
  stop : ∀ (i : Nat) H, Ex F H → ds.length ≤ i → J.stop i H
  yld : ∀ (i : Nat) d F1 H v H', Ex F F1 → Ex F1 H → ds[i]? = some d → J.yld i H v H' → ∃ F2, Grow F1 H F2 H' ∧ Rep K A F2 v d
/-- .. beside F a heap G of lists that stay -/
structure ItG (K : PySem.W.Frag) (A : Ad) (J : It) (F G : Hp) (ds : List D) : Prop where
  go : ∀ (i : Nat) d H, Ex F H → Ex G H → ds[i]? = some d → J.go i H
  stop : ∀ (i : Nat) H, Ex F H → Ex G H → ds.length ≤ i → J.stop i H
  yld : ∀ (i : Nat) d F1 H v H', Ex F F1 → Ex F1 H → Ex G H → ds[i]? = some d → J.yld i H v H' → ∃ F2, Grow F1 H F2 H' ∧ Rep K A F2 v d
def LstH (G : Hp) : Prop := ∀ a o, G a = some o → ∃ vs, o = .lst vs
theorem ItD.g {K : PySem.W.Frag} {A : Ad} {J : It} {F G : Hp} {ds : List D} (h : ItD K A J F ds) : ItG K A J F G ds :=
  ⟨fun i d H e _ hd => h.go i d H e hd, fun i H e _ hi => h.stop i H e hi, fun i d F1 H v H' e1 e2 _ hd hy => h.yld i d F1 H v H' e1 e2 hd hy⟩
def WdI (K : PySem.W.Frag) (x : Fx) (r : Except Xn (List D)) (F H : Hp) (σ : L2.St) (R : It → Hp → Prop) : Prop := match r with
  | .ok ds => ∀ F' H' J G, Grow F H F' H' → Ex G x.B → LstH G → ItG K x.A J F' G ds → R J H'
  | .error e => Wx K x F H σ e
theorem WdI.d {K : PySem.W.Frag} {x : Fx} {ds : List D} {F H : Hp} {σ : L2.St} {R : It → Hp → Prop} (w : WdI K x (.ok ds) F H σ R) (F' H' : Hp) (J : It) (G : Grow F H F' H') (h : ItD K x.A J F' ds) : R J H' :=
  w F' H' J (fun _ => none) G (fun _ _ z => nomatch z) (fun _ _ z => nomatch z) h.g
def tI (K : PySem.W.Frag) (x : Fx) (f : Ro → EM (List D)) : TI := fun σ H R => ∃ F ρ r, SR K x.A x.T x.B x.F0 F H σ ρ ∧ f ρ = some r ∧ WdI K x r F H σ R
theorem pi_wk {tg e : Expr} {t t' : TI} (h : PI X tg e t) (w : ∀ σ H Q, t' σ H Q → t σ H Q) : PI X tg e t' := ⟨fun pins s σ H Q I q => h.run pins s σ H Q I (w σ H Q q)⟩
theorem itd_list {K : PySem.W.Frag} {A : Ad} {F : Hp} {a : Addr} {vs : List V} {ds : List D} (h : SqL K F a vs) (uniq : ∀ H xs, Ex F H → SqL K H a xs → (∀ ys, SqL K H a ys → ys = xs)) (r : RepL K A F vs ds) : ItD K A (Itl K a) F ds where
  go := fun i d H e hd => by
    obtain ⟨v, h1, _⟩ := r.get hd
    exact ⟨vs, v, e.sqL h, h1⟩
  stop := fun i H e hi => ⟨vs, e.sqL h, by rw [r.length]; exact hi⟩
  yld := fun i d F1 H v H' e1 e2 hd hy => by
    obtain ⟨e, hy⟩ := hy
    subst e
    obtain ⟨u, h1, h2⟩ := r.get hd
    have := hy vs ((e1.trans e2).sqL h)
    rw [h1] at this
    cases (Option.some.inj this)
    exact ⟨F1, .refl e2, h2.mono e1⟩
end
section
variable {X : Cx} {x : Fx} {a b : Expr} {es : List Expr} {pos p : Pos} {f : Ro → EM D} {fs : Ro → EM (List D)}
/-- a list, a tuple, the script -/
def dIt (d : D) : EM (List D) := match d with
  | .lst xs => ok xs
  | .tup xs => ok xs
  | .scr ns => ok (ns.map D.int)
  | _ => none
def iOf (f : Ro → EM D) : Ro → EM (List D) := fun ρ => bnd (f ρ) dIt
theorem itd_lst {K : PySem.W.Frag} {A : Ad} {F : Hp} {a : Addr} {vs : List V} {ds : List D} (h : SqL K F a vs) (r : RepL K A F vs ds) : ItD K A (Itl K a) F ds where
  go := fun i d H e hd => by
    obtain ⟨v, h1, _⟩ := r.get hd
    exact ⟨vs, v, e.sqL h, h1⟩
  stop := fun i H e hi => ⟨vs, e.sqL h, by rw [r.length]; exact hi⟩
  yld := fun i d F1 H v H' e1 e2 hd hy => by
    obtain ⟨e, hy⟩ := hy
    subst e
    obtain ⟨u, h1, h2⟩ := r.get hd
    have := hy vs ((e1.trans e2).sqL h)
    rw [h1] at this
    cases (Option.some.inj this)
    exact ⟨F1, .refl e2, h2.mono e1⟩
theorem itd_tup {K : PySem.W.Frag} {A : Ad} {F : Hp} {a : Addr} {vs : List V} {ds : List D} (h : SqT K F a vs) (r : RepL K A F vs ds) : ItD K A (Itt K a) F ds where
  go := fun i d H e hd => by
    obtain ⟨v, h1, _⟩ := r.get hd
    exact ⟨vs, v, e.sqT h, h1⟩
  stop := fun i H e hi => ⟨vs, e.sqT h, by rw [r.length]; exact hi⟩
  yld := fun i d F1 H v H' e1 e2 hd hy => by
    obtain ⟨e, hy⟩ := hy
    subst e
    obtain ⟨u, h1, h2⟩ := r.get hd
    have := hy vs ((e1.trans e2).sqT h)
    rw [h1] at this
    cases (Option.some.inj this)
    exact ⟨F1, .refl e2, h2.mono e1⟩
theorem pid_list {tg : Expr} (h : PE X a (tK X.K x .fz f)) : PI X tg a (tI X.K x (iOf f)) := by
  have hl : PI X tg a (iList X.K (tK X.K x .fz f)) := pi_list h
  have ht : PI X tg a (iTup X.K (tK X.K x .fz f)) := pi_tup h
  have hb : PI X tg a (fun σ H R => iList X.K (tK X.K x .fz f) σ H R ∨ iTup X.K (tK X.K x .fz f) σ H R) := ⟨fun pins s σ H R I q => q.elim (hl.run pins s σ H R I) (ht.run pins s σ H R I)⟩
  refine pi_wk hb fun σ H R ⟨F, ρ, r, S, e, w⟩ => ?_
  cases ef : f ρ with
  | none => unfold iOf at e; rw [ef] at e; cases e
  | some q =>
    unfold iOf at e
    rw [ef] at e
    cases q with
    | error y =>
      cases (Option.some.inj e)
      exact .inl ⟨F, ρ, .error y, S, ef, w⟩
    | ok d =>
      simp only [bnd] at e
      unfold dIt at e
      split at e
      · cases (Option.some.inj e)
        refine .inl ⟨F, ρ, .ok _, S, ef, fun F1 H1 v G r1 => ?_⟩
        have r1' : Rep X.K x.A F1 v (.lst _) := r1
        cases r1' with
        | lst h1 rr => exact ⟨_, rfl, ⟨_, .of (G.i _ _ h1)⟩, WdI.d w F1 H1 _ G (itd_lst (.of h1) rr)⟩
      · cases (Option.some.inj e)
        refine .inr ⟨F, ρ, .ok _, S, ef, fun F1 H1 v G r1 => ?_⟩
        have r1' : Rep X.K x.A F1 v (.tup _) := r1
        cases r1' with
        | tup h1 rr => exact ⟨_, rfl, ⟨_, .of (G.i _ _ h1)⟩, WdI.d w F1 H1 _ G (itd_tup (.of h1) rr)⟩
      · cases (Option.some.inj e)
        refine .inl ⟨F, ρ, .ok _, S, ef, fun F1 H1 v G r1 => ?_⟩
        have r1' : Rep X.K x.A F1 v (.scr _) := r1
        cases r1' with
        | scr h1 => exact ⟨_, rfl, ⟨_, G.i.sqL h1⟩, WdI.d w F1 H1 _ G (itd_lst h1 (.ints _))⟩
      · cases e
/-- range -/
def dRng1 (ds : List D) : EM (List D) := match ds with
  | [.int j] => if -(2 ^ 62) ≤ j ∧ j < 2 ^ 62 then ok ((List.range j.toNat).map fun (i : Nat) => .int (i : Int)) else none
  | _ => none
def dRng2 (ds : List D) : EM (List D) := match ds with
  | [.int i, .int j] => if -(2 ^ 62) ≤ i ∧ i < 2 ^ 62 ∧ -(2 ^ 62) ≤ j ∧ j < 2 ^ 62 then ok ((List.range (j - i).toNat).map fun (k : Nat) => .int (i + (k : Int))) else none
  | _ => none
def iRg (h : List D → EM (List D)) (fs : Ro → EM (List D)) : Ro → EM (List D) := fun ρ => bnd (fs ρ) h
theorem itd_rng {K : PySem.W.Frag} {A : Ad} {F : Hp} {lo : Int} {n : Nat} : ItD K A (Itr lo n) F ((List.range n).map fun (k : Nat) => .int (lo + (k : Int))) where
  go := fun i d H e hd => by
    have := (List.getElem?_eq_some_iff.mp hd).1
    rw [List.length_map, List.length_range] at this
    exact this
  stop := fun i H e hi => by
    rw [List.length_map, List.length_range] at hi
    exact hi
  yld := fun i d F1 H v H' e1 e2 hd hy => by
    obtain ⟨e, hy⟩ := hy
    subst e hy
    rw [List.getElem?_map] at hd
    cases q : (List.range n)[i]? with
    | none => rw [q] at hd; cases hd
    | some k =>
      rw [q] at hd
      cases (Option.some.inj hd)
      obtain ⟨h1, h2⟩ := List.getElem?_eq_some_iff.mp q
      rw [List.getElem_range] at h2
      subst h2
      exact ⟨F1, .refl e2, .int _⟩
theorem pid_range1 {tg : Expr} (hm : X.mg "range" = none) (hg : Gl X "range") (ha : PA X [a] (tA X.K x .bw fs)) (hs : starEach [a] X.env = [(false, eval a X.env)] := by rfl) : PI X tg (.Call (.Name "range" p) [a] [] pos) (tI X.K x (iRg dRng1 fs)) :=
  pi_wk (pi_range1 hg hm ha hs) fun σ H R ⟨F, ρ, r, S, e, w⟩ => ta_step S e (fun y hy => by subst hy; exact w) fun ds F1 H1 vs G S1 r1 e1 => by
    unfold dRng1 at e1
    split at e1
    · rename_i j
      split at e1
      · rename_i hj
        cases (Option.some.inj e1)
        obtain ⟨v, rfl, rv⟩ := rkl1 r1
        rw [rk_int rv]
        refine ⟨_, rfl, hj.1, hj.2, WdI.d w F1 H1 _ G ?_⟩
        have q := itd_rng (K := X.K) (A := x.A) (F := F1) (lo := 0) (n := j.toNat)
        have e : ((List.range j.toNat).map fun (k : Nat) => D.int (0 + (k : Int))) = (List.range j.toNat).map fun (k : Nat) => D.int (k : Int) := by
          apply List.map_congr_left
          intro k _
          rw [Int.zero_add]
        rw [e] at q
        exact q
      · cases e1
    · cases e1
theorem pid_range2 {tg : Expr} (hm : X.mg "range" = none) (hg : Gl X "range") (ha : PA X [a, b] (tA X.K x .bw fs)) (hs : starEach [a, b] X.env = [(false, eval a X.env), (false, eval b X.env)] := by rfl) (hs2 : starEach [b] X.env = [(false, eval b X.env)] := by rfl) : PI X tg (.Call (.Name "range" p) [a, b] [] pos) (tI X.K x (iRg dRng2 fs)) :=
  pi_wk (pi_range2 hg hm ha hs hs2) fun σ H R ⟨F, ρ, r, S, e, w⟩ => ta_step S e (fun y hy => by subst hy; exact w) fun ds F1 H1 vs G S1 r1 e1 => by
    unfold dRng2 at e1
    split at e1
    · split at e1
      · rename_i hj
        cases (Option.some.inj e1)
        obtain ⟨v, u, rfl, rv, ru⟩ := rkl2 r1
        rw [rk_int rv, rk_int ru]
        exact ⟨_, _, rfl, hj, WdI.d w F1 H1 _ G itd_rng⟩
      · cases e1
    · cases e1
/-- enumerate -/
def enumD (i : Nat) : List D → List D
  | [] => []
  | d :: ds => .tup [.int (i : Nat), d] :: enumD (i + 1) ds
theorem enumD_get : ∀ {ds : List D} {j i : Nat}, (enumD j ds)[i]? = (ds[i]?).map fun d => .tup [.int ((j + i : Nat) : Int), d]
  | [], j, i => by simp [enumD]
  | d :: ds, j, 0 => by simp [enumD]
  | d :: ds, j, i + 1 => by
    show (enumD (j + 1) ds)[i]? = _
    rw [enumD_get, List.getElem?_cons_succ]
    congr 1
    funext d
    rw [show j + 1 + i = j + (i + 1) by omega]
theorem enumD_len : ∀ {ds : List D} {j : Nat}, (enumD j ds).length = ds.length
  | [], _ => rfl
  | d :: ds, j => by
    show (enumD (j + 1) ds).length + 1 = _
    rw [enumD_len]
    rfl
def iEn (f : Ro → EM D) : Ro → EM (List D) := fun ρ => bnd (f ρ) fun d => match d with
  | .lst xs => ok (enumD 0 xs)
  | _ => none
theorem pid_enum {elts : List Expr} {kk : Nat} {tpos : Pos} (hm : X.mg "enumerate" = none) (hg : Gl X "enumerate") (ha : PE X a (tK X.K x .fz f)) (he : starEach [a] X.env = (false, eval a X.env) :: starEach [] X.env := by rfl) (hs : starEach [a] X.env = [(false, eval a X.env)] := by rfl) : PI X (.Tuple elts kk tpos) (.Call (.Name "enumerate" p) [a] [] pos) (tI X.K x (iEn f)) :=
  pi_wk (pi_enum hg hm (pa_cons ha pa_nil he) hs) fun σ H R ⟨F, ρ, r, S, e, w⟩ => tk_step S e (fun y hy => by subst hy; exact w) fun d F1 H1 v G S1 r1 e1 => by
    split at e1
    · rename_i ds
      cases (Option.some.inj e1)
      have r1' : Rep X.K x.A F1 v (.lst ds) := r1
      cases r1' with
      | @lst a' vs _ h1 rr =>
        refine ⟨a', vs, rfl, .of (S1.fh _ _ h1), WdI.d w F1 H1 _ G ⟨fun i d H e hd => ?_, fun i H e hi => ?_, fun i d F2 H v H' e1 e2 hd hy => ?_⟩⟩
        · rw [enumD_get] at hd
          cases q : ds[i]? with
          | none => rw [q] at hd; cases hd
          | some d' =>
            obtain ⟨u, q1, _⟩ := rr.get q
            exact ⟨vs, u, .of (e _ _ h1), q1⟩
        · rw [enumD_len] at hi
          exact ⟨vs, .of (e _ _ h1), by rw [rr.length]; exact hi⟩
        · rw [enumD_get] at hd
          cases q : ds[i]? with
          | none => rw [q] at hd; cases hd
          | some d' =>
            rw [q] at hd
            cases (Option.some.inj hd)
            obtain ⟨u, q1, q2⟩ := rr.get q
            obtain ⟨T, y, rfl, hT, rfl, hy⟩ := hy
            have := hy vs (.of ((e1.trans e2) _ _ h1))
            rw [q1] at this
            cases (Option.some.inj this)
            have fr := Grow.new (o := HO.tup [.int (i : Nat), u]) e2 hT
            refine ⟨_, fr, Rep.tup upd_same (.cons ?_ (.one ((q2.mono e1).mono fr.f)))⟩
            rw [Nat.zero_add]
            exact .int _
    · cases e1

/-! ### for, while -/
def forD (t : Tg) (g : Ro → Option Fl) : List D → Ro → Option Fl
  | [], ρ => some (.nx ρ)
  | d :: ds, ρ => match t d ρ with
    | none => none
    | some ρ1 => match g ρ1 with
      | some (.nx ρ2) => forD t g ds ρ2
      | some (.ct ρ2) => forD t g ds ρ2
      | some (.bk ρ2) => some (.nx ρ2)
      | o => o
def sFor (t : Tg) (fi : Ro → EM (List D)) (g : Ro → Option Fl) : Ro → Option Fl := fun ρ => toS ρ (fi ρ) fun ds => forD t g ds ρ
theorem ti_step {fi : Ro → EM (List D)} {g : List D → Option Fl} {fl : Fl} {F H : Hp} {σ : L2.St} {ρ : Ro} {E : Ends} {R : It → Hp → Prop} (S : SR X.K x.A x.T x.B x.F0 F H σ ρ) (e : toS ρ (fi ρ) g = some fl) (w : WdS X.K x fl F E)
    (hk : ∀ ds F' H' J G', Grow F H F' H' → SR X.K x.A x.T x.B x.F0 F' H' σ ρ → Ex G' x.B → LstH G' → ItG X.K x.A J F' G' ds → g ds = some fl → WdS X.K x fl F' E → R J H') : tI X.K x fi σ H R := by
  unfold toS at e
  cases ef : fi ρ with
  | none => rw [ef] at e; cases e
  | some q =>
    rw [ef] at e
    cases q with
    | error y =>
      cases (Option.some.inj e)
      exact ⟨F, ρ, .error y, S, ef, WdS.wx S w⟩
    | ok d => exact ⟨F, ρ, .ok d, S, ef, fun F' H' J G' G eG lG hi => hk d F' H' J G' G (S.grow G) eG lG hi e (w.mono G.f)⟩
theorem pks_for {tg iter : Expr} {body : List Stmt} {t : Tg} {sl : List Nat} {fi : Ro → EM (List D)} {g : Ro → Option Fl} (hp : PassesOwn (model X.prog X.w) X.A X.env X.xe) (hc : X.calm = true) (hi : PI X tg iter (tI X.K x fi)) (hg : PG X tg (tG X.K x sl t)) (hb : PSs X body (tS X.K x g))
    (hs : ∀ z, foldedSetIterable iter X.env z = pure z := by intro _; rfl) : PS X (.For tg iter body [] pos) (tS X.K x (sFor t fi g)) := ps_wk (ps_for hp hc hi hg hb hs) fun E σ H ⟨F, ρ, fl, S, e, w⟩ =>
  ti_step S e w fun ds F1 H1 J Gq G1 S1 eG lG hi e1 w1 => by
    refine ⟨fun i m σ' H' => m = ds.length - i ∧ ∃ F2 ρ2, Ex F1 F2 ∧ SR X.K x.A x.T x.B x.F0 F2 H' σ' ρ2 ∧ forD t g (ds.drop i) ρ2 = some fl, ⟨ds.length, rfl, F1, ρ, .refl _, S1, e1⟩, ?_⟩
    rintro i m σ2 H2 ⟨rfl, F2, ρ2, ex, S2, e2⟩
    cases ed : ds[i]? with
    | none =>
      have hl : ds.length ≤ i := List.getElem?_eq_none_iff.mp ed
      rw [List.drop_eq_nil_of_le hl] at e2
      cases (Option.some.inj e2)
      exact .inl ⟨hi.stop i H2 (ex.trans S2.fh) (eG.trans S2.bh) hl, w1 F2 H2 σ2 ex S2⟩
    | some d =>
      have hlt : i < ds.length := (List.getElem?_eq_some_iff.mp ed).1
      have hd : ds.drop i = d :: ds.drop (i + 1) := by
        rw [List.drop_eq_getElem_cons hlt, (List.getElem?_eq_some_iff.mp ed).2]
      rw [hd] at e2
      refine .inr ⟨hi.go i d H2 (ex.trans S2.fh) (eG.trans S2.bh) ed, fun σ' H' => ∃ F3 ρ3, Ex F1 F3 ∧ SR X.K x.A x.T x.B x.F0 F3 H' σ' ρ3 ∧ forD t g (ds.drop (i + 1)) ρ3 = some fl, fun σ' H' n => ⟨ds.length - (i + 1), by omega, rfl, n⟩, fun v H' hy => ?_⟩
      obtain ⟨F3, G3, rv⟩ := hi.yld i d F2 H2 v H' ex S2.fh (eG.trans S2.bh) ed hy
      have S3 := S2.grow G3
      unfold forD at e2
      cases et : t d ρ2 with
      | none => rw [et] at e2; cases e2
      | some ρ3 =>
        rw [et] at e2
        dsimp only at e2
        refine ⟨F3, ρ2, d, ρ3, S3, rv, et, fun σ4 S4 _ _ => ?_⟩
        have ex3 := ex.trans G3.f
        cases eg : g ρ3 with
        | none => rw [eg] at e2; cases e2
        | some f4 =>
          rw [eg] at e2
          refine ⟨F3, ρ3, f4, S4, eg, ?_⟩
          cases f4 with
          | nx ρ4 => exact fun F5 H5 σ5 e5 S5 => ⟨F5, ρ4, ex3.trans e5, S5, e2⟩
          | ct ρ4 => exact fun F5 H5 σ5 e5 S5 => ⟨F5, ρ4, ex3.trans e5, S5, e2⟩
          | bk ρ4 =>
            cases (Option.some.inj e2)
            exact fun F5 H5 σ5 e5 S5 => w1 F5 H5 σ5 (ex3.trans e5) S5
          | rt d => cases (Option.some.inj e2); exact w1
          | rto d => cases (Option.some.inj e2); exact w1
          | ex y ρ4 => cases (Option.some.inj e2); exact WdS.mono (fl := .ex y ρ4) ex3 w1
def whileN (c : Ro → EM Bool) (g : Ro → Option Fl) : Nat → Ro → Option Fl
  | 0, _ => none
  | n + 1, ρ => toS ρ (c ρ) fun b => if b = true then match g ρ with
      | some (.nx ρ2) => whileN c g n ρ2
      | some (.ct ρ2) => whileN c g n ρ2
      | some (.bk ρ2) => some (.nx ρ2)
      | o => o
    else some (.nx ρ)
theorem toS_imp {α : Type} {ρ : Ro} {m : EM α} {g g' : α → Option Fl} {fl : Fl} (h : ∀ a, g a = some fl → g' a = some fl) (e : toS ρ m g = some fl) : toS ρ m g' = some fl := by
  unfold toS at e ⊢
  split at e
  · cases e
  · exact e
  · exact h _ e
theorem whileN_le (c : Ro → EM Bool) (g : Ro → Option Fl) : ∀ (n m : Nat) (ρ : Ro) (fl : Fl), n ≤ m → whileN c g n ρ = some fl → whileN c g m ρ = some fl
  | 0, _, _, _, _, e => by cases e
  | n + 1, 0, _, _, h, _ => by omega
  | n + 1, m + 1, ρ, fl, h, e => by
    unfold whileN at e ⊢
    refine toS_imp (fun b hb => ?_) e
    cases b with
    | false => exact hb
    | true =>
      simp only [if_true] at hb ⊢
      split at hb
      · exact whileN_le c g n m _ _ (by omega) hb
      · exact whileN_le c g n m _ _ (by omega) hb
      · exact hb
      · exact hb
open Classical in
noncomputable def sWhile (c : Ro → EM Bool) (g : Ro → Option Fl) : Ro → Option Fl := fun ρ => if h : ∃ n fl, whileN c g n ρ = some fl then whileN c g h.choose ρ else none
theorem sWhile_is {c : Ro → EM Bool} {g : Ro → Option Fl} {n : Nat} {ρ : Ro} {fl : Fl} (e : whileN c g n ρ = some fl) : sWhile c g ρ = some fl := by
  unfold sWhile
  have h : ∃ n fl, whileN c g n ρ = some fl := ⟨n, fl, e⟩
  rw [dif_pos h]
  obtain ⟨fl', e'⟩ := h.choose_spec
  rw [e']
  have a := whileN_le c g _ (max n h.choose) ρ fl (Nat.le_max_left _ _) e
  have b := whileN_le c g _ (max n h.choose) ρ fl' (Nat.le_max_right _ _) e'
  rw [a] at b
  exact b.symm
theorem sWhile_of {c : Ro → EM Bool} {g : Ro → Option Fl} {ρ : Ro} {fl : Fl} (e : sWhile c g ρ = some fl) : ∃ n, whileN c g n ρ = some fl := by
  unfold sWhile at e
  split at e
  · exact ⟨_, e⟩
  · cases e
theorem tts_step {K : PySem.W.Frag} {f : Ro → EM Bool} {g : Bool → Option Fl} {fl : Fl} {F H : Hp} {σ : L2.St} {ρ : Ro} {E : Ends} {Q : Bool → Hp → Prop} (S : SR K x.A x.T x.B x.F0 F H σ ρ) (e : toS ρ (f ρ) g = some fl) (w : WdS K x fl F E)
    (hk : ∀ d F' H', Grow F H F' H' → SR K x.A x.T x.B x.F0 F' H' σ ρ → g d = some fl → WdS K x fl F' E → Q d H') : tT K x f σ H Q := by
  unfold toS at e
  cases ef : f ρ with
  | none => rw [ef] at e; cases e
  | some q =>
    rw [ef] at e
    cases q with
    | error y =>
      cases (Option.some.inj e)
      exact ⟨F, ρ, .error y, S, ef, WdS.wx S w⟩
    | ok d => exact ⟨F, ρ, .ok d, S, ef, fun F' H' G => hk d F' H' G (S.grow G) e (w.mono G.f)⟩
theorem pks_while {c : Expr} {body : List Stmt} {fc : Ro → EM Bool} {g : Ro → Option Fl} (hp : PassesOwn (model X.prog X.w) X.A X.env X.xe) (hc : PT X c (tT X.K x fc)) (hb : PSs X body (tS X.K x g)) : PS X (.While c body [] pos) (tS X.K x (sWhile fc g)) := ps_wk (ps_while hp hc hb) fun E σ H ⟨F, ρ, fl, S, e, w⟩ => by
  obtain ⟨n0, e0⟩ := sWhile_of e
  refine ⟨fun m σ' H' => ∃ F2 ρ2, Ex F F2 ∧ SR X.K x.A x.T x.B x.F0 F2 H' σ' ρ2 ∧ whileN fc g m ρ2 = some fl, ⟨n0, F, ρ, .refl _, S, e0⟩, ?_⟩
  rintro m σ2 H2 ⟨F2, ρ2, ex, S2, e2⟩
  cases m with
  | zero => cases e2
  | succ m =>
    unfold whileN at e2
    refine tts_step S2 e2 (w.mono ex) fun b F3 H3 G3 S3 e3 w3 => ?_
    cases b with
    | false =>
      refine iteF ?_
      simp only [Bool.false_eq_true, if_false] at e3
      cases (Option.some.inj e3)
      exact w3 F3 H3 σ2 (.refl _) S3
    | true =>
      refine iteT ⟨fun σ' H' => ∃ F4 ρ4, Ex F F4 ∧ SR X.K x.A x.T x.B x.F0 F4 H' σ' ρ4 ∧ whileN fc g m ρ4 = some fl, fun σ' H' h => ⟨m, by omega, h⟩, ?_⟩
      simp only [if_true] at e3
      have ex3 := ex.trans G3.f
      cases eg : g ρ2 with
      | none => rw [eg] at e3; cases e3
      | some f4 =>
        rw [eg] at e3
        refine ⟨F3, ρ2, f4, S3, eg, ?_⟩
        cases f4 with
        | nx ρ4 => exact fun F5 H5 σ5 e5 S5 => ⟨F5, ρ4, ex3.trans e5, S5, e3⟩
        | ct ρ4 => exact fun F5 H5 σ5 e5 S5 => ⟨F5, ρ4, ex3.trans e5, S5, e3⟩
        | bk ρ4 =>
          cases (Option.some.inj e3)
          exact fun F5 H5 σ5 e5 S5 => w F5 H5 σ5 (ex3.trans e5) S5
        | rt d => cases (Option.some.inj e3); exact w
        | rto d => cases (Option.some.inj e3); exact w
        | ex y ρ4 => cases (Option.some.inj e3); exact WdS.mono (fl := .ex y ρ4) ex3 w
end
end Tw
/-! TwH: list comprehensions by data; methods of texts. -/
namespace Tw
open PySem PySem.Spec PyProof.Rows L2

def Fx.nox (x : Fx) : Fx := ⟨x.A, x.T, x.B, x.F0, fun _ _ _ _ => False⟩
def wipeE (ρ : Ro) : List Nat → Ro
  | [] => ρ
  | v :: vs => (wipeE ρ vs).set v .un
section
variable {K : PySem.W.Frag} {A : Ad} {T : Nat → V} {B F0 F H : Hp} {σ : L2.St} {ρ : Ro}
theorem SR.wipe (S : SR K A T B F0 F H σ ρ) : ∀ vs : List Nat, SR K A T B F0 F H (L2.wipe σ vs) (wipeE ρ vs)
  | [] => S
  | v :: vs => by
    unfold L2.wipe wipeE
    exact (SR.wipe S vs).dropV
/-- another new object changes -/
theorem SR.other (S : SR K A T B F0 F H σ ρ) {p : Addr} {o : HO} (hF : F p = none) (hB : B p = none) (hn : ∀ (j : Nat) es, ρ[j]? = some (.ow es) → σ[j]? ≠ some (some (.ref p))) : SR K A T B F0 F (upd H p o) σ ρ where
  fh := S.fh.mut hF
  bh := S.bh.mut hB
  f0 := S.f0
  nw := S.nw
  len := S.len
  fz := S.fz
  ow := fun i ds e => by
    obtain ⟨l, vs, h1, h2, h3, h4, h5⟩ := S.ow i ds e
    refine ⟨l, vs, h1, h2, h3, ?_, h5⟩
    rw [upd_ne]
    · exact h4
    · intro z
      subst z
      exact hn i ds e h1
  sep := S.sep
  tk := S.tk
theorem wipe_get : ∀ (vs : List Nat) (j : Nat), (L2.wipe σ vs)[j]? = if j ∈ vs ∧ j < σ.length then some none else σ[j]?
  | [], j => by simp [L2.wipe]
  | v :: vs, j => by
    unfold L2.wipe
    by_cases e : v = j
    · subst e
      by_cases hl : v < σ.length
      · rw [List.getElem?_set_self (by rw [wipe_length]; exact hl), if_pos ⟨List.mem_cons_self, hl⟩]
      · rw [List.getElem?_eq_none (by rw [List.length_set, wipe_length]; omega), if_neg (fun q => hl q.2), List.getElem?_eq_none (by omega)]
    · rw [List.getElem?_set_ne e, wipe_get vs j]
      have : j ∈ v :: vs ↔ j ∈ vs := by
        simp only [List.mem_cons]
        exact ⟨fun h => h.resolve_left (fun z => e z.symm), .inr⟩
      simp only [this]
/-- what a target may have stored is wiped -/
theorem wipe_back {σ2 : L2.St} {vs sl : List Nat} (hl : σ2.length = (L2.wipe σ vs).length) (h : ∀ j, j ∉ sl → σ2[j]? = (L2.wipe σ vs)[j]?) (hs : ∀ j ∈ sl, j ∈ vs) : L2.wipe σ2 vs = L2.wipe σ vs := by
  rw [wipe_length] at hl
  apply List.ext_getElem?
  intro j
  rw [wipe_get, wipe_get, hl]
  by_cases hj : j ∈ vs ∧ j < σ.length
  · rw [if_pos hj, if_pos hj]
  · rw [if_neg hj, if_neg hj]
    by_cases hm : j ∈ sl
    · have h1 : j ∈ vs := hs j hm
      have h2 : ¬ j < σ.length := fun q => hj ⟨h1, q⟩
      rw [List.getElem?_eq_none (by omega), List.getElem?_eq_none (by omega)]
    · rw [h j hm, wipe_get, if_neg hj]
end
/-- the items made, one by one -/
def lcD (t : Tg) (p : Ro → EM Bool) (f : Ro → EM D) (ρ : Ro) : List D → Option (List D)
  | [] => some []
  | d :: ds => match t d ρ with
    | none => none
    | some ρ1 => match p ρ1 with
      | some (.ok true) => match f ρ1 with
        | some (.ok y) => (lcD t p f ρ ds).map (y :: ·)
        | _ => none
      | some (.ok false) => lcD t p f ρ ds
      | _ => none
def eLc (vs : List Nat) (t : Tg) (fi : Ro → EM (List D)) (p : Ro → EM Bool) (f : Ro → EM D) : Ro → EM D := fun ρ => bnd (fi ρ) fun ds => match lcD t p f (wipeE ρ vs) ds with
  | some ys => if ys.length < sizeLine then ok (.lst ys) else none
  | none => none
def bYes : Ro → EM Bool := fun _ => ok true
section
variable {X : Cx} {x : Fx} {a b c e : Expr} {es : List Expr} {pos p : Pos} {f g : Ro → EM D} {fs : Ro → EM (List D)} {k : Kd}
theorem tie_step {fi : Ro → EM (List D)} {β : Type} {g : List D → EM β} {r : Except Xn β} {F H : Hp} {σ : L2.St} {ρ : Ro} {R : It → Hp → Prop} (S : SR X.K x.A x.T x.B x.F0 F H σ ρ) (e : bnd (fi ρ) g = some r) (hx : ∀ y, r = .error y → Wx X.K x F H σ y)
    (hk : ∀ ds F' H' J G', Grow F H F' H' → SR X.K x.A x.T x.B x.F0 F' H' σ ρ → Ex G' x.B → LstH G' → ItG X.K x.A J F' G' ds → g ds = some r → R J H') : tI X.K x fi σ H R := by
  cases ef : fi ρ with
  | none => rw [ef] at e; cases e
  | some q =>
    rw [ef] at e
    cases q with
    | error y =>
      have e' : (Except.error y : Except Xn β) = r := Option.some.inj e
      exact ⟨F, ρ, .error y, S, ef, hx y e'.symm⟩
    | ok d => exact ⟨F, ρ, .ok d, S, ef, fun F' H' J G' G eG lG hi => hk d F' H' J G' G (S.grow G) eG lG hi e⟩
theorem ptsd_nil : PTs X [] (tT X.K x bYes) := ⟨fun pins s σ H Q I ⟨F, ρ, r, S, e, w⟩ => by
  cases (Option.some.inj e)
  exact pts_nil.run pins s σ H Q I (w F H (.refl S.fh))⟩
theorem ptsd_one {q : Ro → EM Bool} (h : PT X c (tT X.K x q)) : PTs X [c] (tT X.K x q) := pts_one h
/-- THE READING of a comprehension -/
theorem lc_rd {K : PySem.W.Frag} {fi : Ro → EM (List D)} {q : Ro → EM Bool} {t : Tg} {sl vs : List Nat} (hK : X.K = K) (hk : k ≠ .bw) (hs : ∀ j ∈ sl, j ∈ vs) {σ : L2.St} {H : Hp} {Q : VK} (h : tK X.K x k (eLc vs t fi q f) σ H Q) :
    tLc (tI X.K x fi) (tG X.K x.nox sl t) (tT X.K x.nox q) (tK X.K x.nox .fz f) vs σ H Q := by
  obtain ⟨F, ρ, r, S, e, w⟩ := h
  refine tie_step S e w.x fun ds F1 H1 J Gq G1 S1 eG lG hi e1 => ?_
  intro Dl hD
  split at e1
  · rename_i ys hy
    split at e1
    · rename_i hz
      cases (Option.some.inj e1)
      have D1 : F1 Dl = none := S1.fh.free hD
      have DB : x.B Dl = none := S1.bh.free hD
      have hn : ∀ (j : Nat) es, ρ[j]? = some (.ow es) → σ[j]? ≠ some (some (.ref Dl)) := fun j es hj z => by
        obtain ⟨l, vs', q1, _, _, q4, _⟩ := S1.ow j es hj
        rw [q1] at z
        cases z
        rw [hD] at q4
        cases q4
      refine ⟨fun i m H2 => m = ds.length - i ∧ ∃ F2 acc accd rest, Grow F1 H1 F2 H2 ∧ SR X.K x.A x.T x.B x.F0 F2 H2 σ ρ ∧ F2 Dl = none ∧ H2 Dl = some (.lst acc) ∧ RepL X.K x.A F2 acc accd ∧ lcD t q f (wipeE ρ vs) (ds.drop i) = some rest ∧ ys = accd ++ rest,
        ⟨ds.length, rfl, F1, [], [], ys, Grow.raw S1.fh hD, S1.other D1 DB hn, D1, upd_same, .nil, hy, rfl⟩, ?_⟩
      rintro i m H2 ⟨rfl, F2, acc, accd, rest, G2, S2, D2, hl, ra, hr, ey⟩
      cases ed : ds[i]? with
      | none =>
        have hlen : ds.length ≤ i := List.getElem?_eq_none_iff.mp ed
        rw [List.drop_eq_nil_of_le hlen] at hr
        cases (Option.some.inj hr)
        rw [List.append_nil] at ey
        subst ey
        refine .inl ⟨hi.stop i H2 (G2.f.trans G2.i) (eG.trans S2.bh) hlen, ?_⟩
        have wo : Wd X.K x .ow (.ok (.lst ys)) F H σ Q := by
          cases k with
          | ow => exact w
          | bw => exact absurd rfl hk
          | fz =>
            intro F' H' v G r
            obtain ⟨l, vs', ds', e1', e2', e0', e5', e3', e4'⟩ := r
            subst e1'
            cases e2'
            have ex' : Ex F' (upd F' l (.lst vs')) := .new e5'
            refine w (upd F' l (.lst vs')) H' (.ref l) ⟨G.f.trans ex', G.h, fun c o hc => ?_, fun c o hc => ?_⟩ (Rep.lst upd_same (e4'.mono ex'))
            · by_cases q : c = l
              · subst q; rw [upd_same] at hc; rw [← hc]; exact e3'
              · rw [upd_ne q] at hc; exact G.i c o hc
            · rw [upd_ne (ne_of_none hc e0')]
              exact G.n c o hc
        exact wo F2 H2 (.ref Dl) (G1.trans G2) ⟨Dl, acc, ys, rfl, rfl, G1.h.free hD, D2, hl, ra⟩
      | some d =>
        have hlt : i < ds.length := (List.getElem?_eq_some_iff.mp ed).1
        have hd : ds.drop i = d :: ds.drop (i + 1) := by
          rw [List.drop_eq_getElem_cons hlt, (List.getElem?_eq_some_iff.mp ed).2]
        rw [hd] at hr
        refine .inr ⟨hi.go i d H2 (G2.f.trans G2.i) (eG.trans S2.bh) ed, fun H3 => ∃ F3 acc accd rest, Grow F1 H1 F3 H3 ∧ SR X.K x.A x.T x.B x.F0 F3 H3 σ ρ ∧ F3 Dl = none ∧ H3 Dl = some (.lst acc) ∧ RepL X.K x.A F3 acc accd ∧ lcD t q f (wipeE ρ vs) (ds.drop (i + 1)) = some rest ∧ ys = accd ++ rest,
          fun H' n => ⟨ds.length - (i + 1), by omega, rfl, n⟩, fun v H3 hyl => ?_⟩
        obtain ⟨F3, G3, rv⟩ := hi.yld i d F2 H2 v H3 G2.f S2.fh (eG.trans S2.bh) ed hyl
        have S3 := S2.grow G3
        have D3 : F3 Dl = none := (G3.n Dl _ hl).trans D2
        have hl3 := G3.h _ _ hl
        have ra3 := ra.mono G3.f
        unfold lcD at hr
        cases et : t d (wipeE ρ vs) with
        | none => rw [et] at hr; cases hr
        | some ρ1 =>
          rw [et] at hr
          dsimp only at hr
          refine ⟨F3, _, d, ρ1, S3.wipe vs, rv, et, fun σ4 S4 l4 k4 => ⟨wipe_back l4 k4 hs, ?_⟩⟩
          cases eq : q ρ1 with
          | none => rw [eq] at hr; cases hr
          | some bq =>
            rw [eq] at hr
            cases bq with
            | error y => cases hr
            | ok b =>
              refine ⟨F3, ρ1, .ok b, S4, eq, fun F5 H5 G5 => ?_⟩
              have S5 := S4.grow G5
              have D5 : F5 Dl = none := (G5.n Dl _ hl3).trans D3
              have hl5 := G5.h _ _ hl3
              have ra5 := ra3.mono G5.f
              have G15 : Grow F1 H1 F5 H5 := (G2.trans G3).trans G5
              have SS5 := S3.grow G5
              cases b with
              | false =>
                refine iteF ⟨F5, acc, accd, rest, G15, SS5, D5, hl5, ra5, hr, ey⟩
              | true =>
                refine iteT ?_
                dsimp only at hr
                cases ef : f ρ1 with
                | none => rw [ef] at hr; cases hr
                | some rf =>
                  rw [ef] at hr
                  cases rf with
                  | error y => cases hr
                  | ok y =>
                    refine ⟨F5, ρ1, .ok y, S5, ef, fun F6 H6 u G6 ru => ?_⟩
                    have ru' : Rep X.K x.A F6 u y := ru
                    have D6 : F6 Dl = none := (G6.n Dl _ hl5).trans D5
                    have hl6 := G6.h _ _ hl5
                    have ra6 := ra5.mono G6.f
                    have G16 : Grow F1 H1 F6 H6 := G15.trans G6
                    have SS6 := SS5.grow G6
                    dsimp only at hr
                    cases er : lcD t q f (wipeE ρ vs) (ds.drop (i + 1)) with
                    | none => rw [er] at hr; cases hr
                    | some rest' =>
                      rw [er] at hr
                      cases (Option.some.inj hr)
                      refine ⟨acc, hl6, ?_, F6, acc ++ [u], accd ++ [y], rest', ⟨G16.f, fun c o hc => ?_, G16.i.mut D6, G16.n⟩, SS6.other D6 DB hn, D6, upd_same, ra6.app (.one ru'), by first | rfl | exact er, by rw [ey, List.append_assoc]; rfl⟩
                      · rw [ra6.length]
                        have : accd.length < ys.length := by rw [ey, List.length_append]; simp
                        omega
                      · rw [upd_ne (ne_of_none hc hD)]
                        exact G16.h c o hc
    · cases e1
  · cases e1
/-- as a value -/
theorem pk_lc {fi : Ro → EM (List D)} {q : Ro → EM Bool} {t : Tg} {sl vs : List Nat} (hk : k ≠ .bw) (hs : ∀ j ∈ sl, j ∈ vs) (h : PE X e (tLc (tI X.K x fi) (tG X.K x.nox sl t) (tT X.K x.nox q) (tK X.K x.nox .fz f) vs)) : PE X e (tK X.K x k (eLc vs t fi q f)) :=
  pe_wk h fun σ H Q q => lc_rd rfl hk hs q
/-- name = [..] -/
theorem pks_setLc {i : Nat} {st : Stmt} {fi : Ro → EM (List D)} {q : Ro → EM Bool} {t : Tg} {sl vs : List Nat} (hs : ∀ j ∈ sl, j ∈ vs) (h : PS X st (tAsg (tLc (tI X.K x fi) (tG X.K x.nox sl t) (tT X.K x.nox q) (tK X.K x.nox .fz f) vs) (gName i))) : PS X st (tS X.K x (sSet i (eLc vs t fi q f))) :=
  ps_wk h fun E σ H q => lc_rd (k := .fz) rfl (by decide) hs (tsAsg (i := i) q)
theorem pks_setLcO {i : Nat} {st : Stmt} {fi : Ro → EM (List D)} {q : Ro → EM Bool} {t : Tg} {sl vs : List Nat} (hs : ∀ j ∈ sl, j ∈ vs) (h : PS X st (tAsg (tLc (tI X.K x fi) (tG X.K x.nox sl t) (tT X.K x.nox q) (tK X.K x.nox .fz f) vs) (gName i))) : PS X st (tS X.K x (sSetO i (eLc vs t fi q f))) :=
  ps_wk h fun E σ H q => lc_rd (k := .ow) rfl (by decide) hs (tsAsgO (i := i) q)

/-! ### methods of texts -/
theorem mb_str1 {c : Str → Str → Bool} {fn : Str → Str → V} {gn : Str → Str → D} {rr : V → List V → Hp → VK → Prop} (hr : ∀ (a b : Str) H Q, c a b = true → Q (fn a b) H → rr (.str a) [.str b] H Q) (hrep : ∀ K A F a b, Rep K A F (fn a b) (gn a b)) : Mb X.K x .fz rr (dStr1 c gn) := fun F H σ z vs ds q Q ex rv hq w => by
  unfold dStr1 at hq
  split at hq
  · rename_i a' b' ea
    cases ea
    split at hq
    · rename_i hc
      cases (Option.some.inj hq)
      obtain ⟨v, rfl, r1⟩ := rkl1 rv
      rw [rk_str r1]
      exact hr _ _ _ _ hc (w.val ex (hrep _ _ _ _ _) (by decide))
    · cases hq
  · cases hq
variable {apos : Pos} {o : Expr}
theorem pk_strip (ho : PE X o (tK X.K x .bw g)) (ha : PA X [e] (tA X.K x .bw fs)) (hbase : attributeBase o "strip" X.env (eval o X.env) = eval o X.env := by rfl) (hline : (apos.endLine == pos.line) = true := by rfl) (hs : starEach [e] X.env = (false, eval e X.env) :: starEach [] X.env := by rfl)
    (hfew : ((backTo pos (starEach [e] X.env)).all (fun x => !x.1) && (backToKw pos (keywordEach [] X.env)).all (fun x => x.1.isSome) && decide ([e].length + ([] : List Keyword).length + (if ([] : List Keyword).isEmpty then 0 else 1) < 30)) = true := by rfl) : PE X (.Call (.Attribute o "strip" apos) [e] [] pos) (tK X.K x .fz (eMt dStrip g fs)) :=
  pk_mt PySem.F.slot_str_strip PySem.F.type_str_strip mt_stripChars (mb_str1 (fn := fun a b => .str (PySem.Txt.stripChars a b)) (fun a b H Q hc q => ⟨a, b, rfl, rfl, of_decide_eq_true hc, q⟩) fun _ _ _ _ _ => .str _) nx_str1 ho ha hbase hfew hline hs
theorem pk_rstrip (ho : PE X o (tK X.K x .bw g)) (ha : PA X [e] (tA X.K x .bw fs)) (hbase : attributeBase o "rstrip" X.env (eval o X.env) = eval o X.env := by rfl) (hline : (apos.endLine == pos.line) = true := by rfl) (hs : starEach [e] X.env = (false, eval e X.env) :: starEach [] X.env := by rfl)
    (hfew : ((backTo pos (starEach [e] X.env)).all (fun x => !x.1) && (backToKw pos (keywordEach [] X.env)).all (fun x => x.1.isSome) && decide ([e].length + ([] : List Keyword).length + (if ([] : List Keyword).isEmpty then 0 else 1) < 30)) = true := by rfl) : PE X (.Call (.Attribute o "rstrip" apos) [e] [] pos) (tK X.K x .fz (eMt dRstrip g fs)) :=
  pk_mt PySem.F.slot_str_rstrip PySem.F.type_str_rstrip mt_rstripChars (mb_str1 (fn := fun a b => .str (PySem.Txt.rstripChars a b)) (fun a b H Q hc q => ⟨a, b, rfl, rfl, of_decide_eq_true hc, q⟩) fun _ _ _ _ _ => .str _) nx_str1 ho ha hbase hfew hline hs
theorem pk_starts (ho : PE X o (tK X.K x .bw g)) (ha : PA X [e] (tA X.K x .bw fs)) (hbase : attributeBase o "startswith" X.env (eval o X.env) = eval o X.env := by rfl) (hline : (apos.endLine == pos.line) = true := by rfl) (hs : starEach [e] X.env = (false, eval e X.env) :: starEach [] X.env := by rfl)
    (hfew : ((backTo pos (starEach [e] X.env)).all (fun x => !x.1) && (backToKw pos (keywordEach [] X.env)).all (fun x => x.1.isSome) && decide ([e].length + ([] : List Keyword).length + (if ([] : List Keyword).isEmpty then 0 else 1) < 30)) = true := by rfl) : PE X (.Call (.Attribute o "startswith" apos) [e] [] pos) (tK X.K x .fz (eMt dStarts g fs)) :=
  pk_mt PySem.F.slot_str_startswith PySem.F.type_str_startswith mt_startswith (mb_str1 (fn := fun a b => .bl (PySem.Txt.startswith a b)) (fun a b H Q hc q => ⟨a, b, rfl, rfl, q⟩) fun _ _ _ _ _ => .bl _) nx_str1 ho ha hbase hfew hline hs
end
end Tw
/-! TwI: what the generator's lines name: callees, classes, globals, sums of rules. -/
namespace Tw
open PySem PySem.Spec PyProof.Rows L2
/-- a def that is called by its name -/
structure Cal (P : Program) (w : World) (K : PySem.W.Frag) (mg : Str → Option Value) (base : Heap) (A : Ad) (k : Nat) (nm : Str) (na : Nat) (m : List D → Option Out) (dds : List D) : Prop where
  ex : ∃ f fd ps ds dvs k', k' ≤ k ∧ FnOk P w K mg base (L2N.CX P w) k' f fd ps (spD K A na m) ∧ mg nm = some (.ref f) ∧ PySem.W.keepIn K (.ref f) = true ∧ Binds K fd ps ds ∧ Vals dvs ds ∧ ∀ F, RepL K A F dvs dds
/-- a class that is called by its name -/
structure Mak (P : Program) (w : World) (K : PySem.W.Frag) (mg : Str → Option Value) (base : Heap) (A : Ad) (k : Nat) (nm : Str) (na : Nat) (c : Cl) (mi : List D → EM (List D)) (dds : List D) : Prop where
  ex : ∃ f fd ps ds dvs k', k' + 1 ≤ k ∧ A.has c = true ∧ Mk K (A.cl c) f ∧ FnOk P w K mg base (L2N.CX P w) k' f fd ps (spI K A (A.cl c) c.names na mi) ∧ mg nm = some (.ref (A.cl c)) ∧ Binds K fd ps ds ∧ Vals dvs ds ∧ ∀ F, RepL K A F dvs dds
/-- an own error class, raised with a text -/
structure Xcl (K : PySem.W.Frag) (mg : Str → Option Value) (A : Ad) (nm : Str) (c : Xc) : Prop where
  g : mg nm = some (.ref (A.xc c))
  x : PySem.W.excIn K (A.xc c) [.type "ValueError", .type "Exception", .type "BaseException", .type "object"] "ValueError.__new__" = true
  k : PySem.W.keepIn K (.ref (A.xc c)) = true
  s : PySem.W.subIn K (.ref (A.xc c)) (.type "BaseException") = some true
  t : PySem.W.typeIn K (.ref (A.xc c)) = some (.type "type")
section
variable {X : Cx} {x : Fx} {a b c e : Expr} {es : List Expr} {pos p : Pos} {f g : Ro → EM D} {fs : Ro → EM (List D)} {k : Kd} {n : Str} {na kk : Nat} {m : List D → Option Out} {dds : List D}
theorem pk_f (C : Cal X.prog X.w X.K X.mg X.base x.A kk n na m dds) (tk : L2N.Takes X x.W) (hr : Room kk X.A) (ha : PA X (e :: es) (tA X.K x .fz fs)) (hg : Gl X n := by rfl) (hdb : (n == ("__debug__" : Str)) = false := by decide) (he : starEach (e :: es) X.env = (false, eval e X.env) :: starEach es X.env := by rfl) (hpl : (backTo pos (starEach es X.env)).any (·.1) = false := by rfl) :
    PE X (.Call (.Name n p) (e :: es) [] pos) (tK X.K x .fz (eCall (dDef na dds (dCall m)) fs)) := by
  obtain ⟨f, fd, ps, ds, dvs, k', hk, Fn, hm, hkp, hb, hd, hdd⟩ := C.ex
  exact pk_call tk Fn (hr.mono hk) hm hkp hb hd hdd hg ha hdb he hpl
theorem pk_fO (C : Cal X.prog X.w X.K X.mg X.base x.A kk n na m dds) (tk : L2N.Takes X x.W) (hr : Room kk X.A) (ha : PA X (e :: es) (tA X.K x .fz fs)) (hg : Gl X n := by rfl) (hdb : (n == ("__debug__" : Str)) = false := by decide) (he : starEach (e :: es) X.env = (false, eval e X.env) :: starEach es X.env := by rfl) (hpl : (backTo pos (starEach es X.env)).any (·.1) = false := by rfl) :
    PE X (.Call (.Name n p) (e :: es) [] pos) (tK X.K x .ow (eCall (dDef na dds (dCallO m)) fs)) := by
  obtain ⟨f, fd, ps, ds, dvs, k', hk, Fn, hm, hkp, hb, hd, hdd⟩ := C.ex
  exact pk_callO tk Fn (hr.mono hk) hm hkp hb hd hdd hg ha hdb he hpl
theorem pk_mk {cl : Cl} {mi : List D → EM (List D)} (C : Mak X.prog X.w X.K X.mg X.base x.A kk n na cl mi dds) (tk : L2N.Takes X x.W) (hr : Room kk X.A) (ha : PA X (e :: es) (tA X.K x .fz fs)) (hg : Gl X n := by rfl) (hdb : (n == ("__debug__" : Str)) = false := by decide) (he : starEach (e :: es) X.env = (false, eval e X.env) :: starEach es X.env := by rfl) (hpl : (backTo pos (starEach es X.env)).any (·.1) = false := by rfl) :
    PE X (.Call (.Name n p) (e :: es) [] pos) (tK X.K x .fz (eCall (dDef na dds (dMake mi cl)) fs)) := by
  obtain ⟨f, fd, ps, ds, dvs, k', hk, hc, hM, Fn, hm, hb, hd, hdd⟩ := C.ex
  exact pk_make tk hc hM Fn (hr.mono hk) hm hb hd hdd hg ha hdb he hpl
/-- a module's constant -/
theorem pk_gl {v : V} {d : D} (h : ∃ u, X.mg n = some u ∧ RelV v u) (r : ∀ F, Rep X.K x.A F v d) (hg : Gl X n := by rfl) (hdb : (n == ("__debug__" : Str)) = false := by decide) : PE X (.Name n p) (tK X.K x .fz (eC d)) := by
  obtain ⟨u, hm, rl⟩ := h
  exact pk_c (pe_glob hg hm rl hdb) r
def sRaise (e : Xn) : Ro → Option Fl := fun ρ => some (.ex e ρ)
/-- raise X('..') -/
theorem pks_raise {y : Xn} {z : Str} {j : Nat} {p1 p2 p3 : Pos} (hc : X.calm = true) (tk : L2N.Takes X x.W) (C : Xcl X.K X.mg x.A n y.cl) (hy : ∀ H, XR H y none) (hg : Gl X n := by rfl) (hdb : (n == ("__debug__" : Str)) = false := by decide) :
    PS X (.Raise (some (.Call (.Name n p) [.Constant (.str z) j p1] [] p2)) none p3) (tS X.K x (sRaise y)) :=
  ps_wk (L2N.ps_raise hc tk (L2N.pmk_own PySem.F.excBase_ValueError C.x C.g C.k (raises_own C.s C.t) hg hdb)) fun E σ H ⟨F, ρ, fl, S, e, w⟩ => by
    cases (Option.some.inj e)
    exact w F H σ (.refl _) S none (hy H)

/-! ### sums of rules -/
/-- + of ints, texts, lists, tuples -/
def dAddU (d e : D) : EM D := match d, e with
  | .lst xs, .lst ys => dCat (.lst xs) (.lst ys)
  | d, e => dAdd d e
theorem pk_addU (ha : PE X a (tK X.K x .bw f)) (hb : PE X b (tK X.K x .bw g)) : PE X (.BinOp a .Add b pos) (tK X.K x .fz (eOp dAddU f g)) :=
  pk_op (op_cat.or (op_add.or (op_add_str.or op_catA))) (fun F H σ v u d e q Q ex rv ru hq w => by
    unfold dAddU at hq
    split at hq
    · exact .inl (op2_cat F H σ v u _ _ q Q ex rv ru hq w)
    · exact .inr (op2_add F H σ v u _ _ q Q ex rv ru hq w)) (fun d e y q => by
    unfold dAddU at q
    split at q
    · exact nox_cat _ _ _ q
    · exact nox_add _ _ _ q) ha hb
/-- * of ints, a list and an int -/
def dMulU (d e : D) : EM D := match d with
  | .lst xs => dRep (.lst xs) e
  | d => dMul d e
theorem pk_mulU (ha : PE X a (tK X.K x .bw f)) (hb : PE X b (tK X.K x .bw g)) : PE X (.BinOp a .Mult b pos) (tK X.K x .fz (eOp dMulU f g)) :=
  pk_op (op_rep.or op_mul) (fun F H σ v u d e q Q ex rv ru hq w => by
    unfold dMulU at hq
    split at hq
    · exact .inl (op2_rep F H σ v u _ _ q Q ex rv ru hq w)
    · exact .inr (op2_I (fun i j h => by
        unfold cMul at h
        simp only [Bool.or_eq_true, Bool.and_eq_true, decide_eq_true_eq] at h
        exact h) F H σ v u _ _ q Q ex rv ru hq w)) (fun d e y q => by
    unfold dMulU at q
    split at q
    · exact nox_rep _ _ _ q
    · exact nox_I _ _ _ q) ha hb
/-- a slice of a list or of a tuple -/
def dSlU (d : D) (lo hi : Option Int) : EM D := match d with
  | .tup xs => dSlT (.tup xs) lo hi
  | d => dSlL d lo hi
theorem pk_slU {lo hi : Option Expr} {p2 : Pos} {fl fh : Ro → EM (Option Int)} (ha : PE X a (tK X.K x .bw f)) (hl : PO X lo (tP X.K x fl)) (hh : PO X hi (tP X.K x fh)) : PE X (.Subscript a (.Slice lo hi none p2) pos) (tK X.K x .fz (eSl dSlU f fl fh)) := by
  have h1 : PE X (.Subscript a (.Slice lo hi none p2) pos) (tK X.K x .fz (eSl dSlL f fl fh)) := pk_slL ha hl hh
  have h2 : PE X (.Subscript a (.Slice lo hi none p2) pos) (tK X.K x .fz (eSl dSlT f fl fh)) := pk_slT ha hl hh
  have h3 : PE X (.Subscript a (.Slice lo hi none p2) pos) (fun σ H R => tK X.K x .fz (eSl dSlL f fl fh) σ H R ∨ tK X.K x .fz (eSl dSlT f fl fh) σ H R) := ⟨fun pins s σ H R I q => q.elim (h1.run pins s σ H R I) (h2.run pins s σ H R I)⟩
  refine pe_wk h3 fun σ H Q ⟨F, ρ, r, S, e, w⟩ => ?_
  have key : eSl dSlL f fl fh ρ = some r ∨ eSl dSlT f fl fh ρ = some r := by
    unfold eSl at e ⊢
    cases ef : f ρ with
    | none => rw [ef] at e; cases e
    | some q =>
      rw [ef] at e
      cases q with
      | error y => exact .inl e
      | ok d =>
        cases d with
        | tup xs => exact .inr e
        | lst xs => exact .inl e
        | scr xs => exact .inl e
        | non => exact .inl e
        | bl b => exact .inl e
        | int b => exact .inl e
        | str b => exact .inl e
        | obj b c => exact .inl e
        | ord b => exact .inl e
  exact key.elim (fun k => .inl ⟨F, ρ, r, S, k, w⟩) fun k => .inr ⟨F, ρ, r, S, k, w⟩
end
end Tw
/-! TwJ: __init__: an object that is being made, its attributes one by one. -/
namespace Tw
open PySem PySem.Spec PyProof.Rows L2
abbrev Fs := List (Str × D)
def RepF (K : PySem.W.Frag) (A : Ad) (F : Hp) (fvs : List (Str × V)) (fs : Fs) : Prop := fvs.map (·.1) = fs.map (·.1) ∧ RepL K A F (fvs.map (·.2)) (fs.map (·.2))
/-- the new object's place, its class, its dict -/
structure Ix where
  A : Ad
  B : Hp
  F0 : Hp
  W : WX
  C : Addr
  p : Addr
  dx : Addr
  /-- a list that is lent -/
  q : Addr
def Ix.T (y : Ix) : Nat → V := fun n => if n = 2 then .ref y.q else .ref y.p
/-- what stood stands, but for the new object -/
def BOk (y : Ix) (B' : Hp) : Prop := ∀ a o, a ≠ y.p → y.B a = some o → B' a = some o
theorem bok_upd {y : Ix} {u : HO} : BOk y (upd y.B y.p u) := fun a o ha hb => by rw [upd_ne ha]; exact hb
def Ix.fx (y : Ix) (B' : Hp) : Fx := ⟨y.A, y.T, B', y.F0, y.W⟩
structure SI (K : PySem.W.Frag) (y : Ix) (F H : Hp) (σ : L2.St) (ρ : Ro) (fs : Fs) : Prop where
  ex : ∃ fvs, RepF K y.A F fvs fs ∧ H y.p = some (.ins y.C y.dx fvs) ∧ SR K y.A y.T (upd y.B y.p (.ins y.C y.dx fvs)) y.F0 F H σ ρ
  fp : F y.p = none
inductive IFl where
  | nx (ρ : Ro) (fs : Fs) | ex (e : Xn)
def WdIS (K : PySem.W.Frag) (y : Ix) (fl : IFl) (F : Hp) (E : Ends) : Prop := match fl with
  | .nx ρ fs => ∀ F' H' σ', Ex F F' → SI K y F' H' σ' ρ fs → E.nx σ' H'
  | .ex e => ∀ F' H' σ' dd, GrowP y.p y.F0 y.B F' H' → XR H' e dd → y.W (.ref (y.A.xc e.cl)) dd σ' H'
def tIS (K : PySem.W.Frag) (y : Ix) (g : Ro → Fs → Option IFl) : TS := fun E σ H => ∃ F ρ fs fl, SI K y F H σ ρ fs ∧ g ρ fs = some fl ∧ WdIS K y fl F E
/-- at the end -/
def WdIF (K : PySem.W.Frag) (y : Ix) (fl : IFl) (F : Hp) (E : Ends) : Prop := match fl with
  | .nx ρ fs => ∀ F' H' σ' fvs, GrowP y.p y.F0 y.B F' H' → H' y.p = some (.ins y.C y.dx fvs) → RepF K y.A F' fvs fs → E.nx σ' H'
  | .ex e => ∀ F' H' σ' dd, GrowP y.p y.F0 y.B F' H' → XR H' e dd → y.W (.ref (y.A.xc e.cl)) dd σ' H'
def tIF (K : PySem.W.Frag) (y : Ix) (g : Ro → Fs → Option IFl) : TS := fun E σ H => ∃ F ρ fs fl, SI K y F H σ ρ fs ∧ g ρ fs = some fl ∧ WdIF K y fl F E
theorem WdIS.mono {K : PySem.W.Frag} {y : Ix} {fl : IFl} {F F' : Hp} {E : Ends} (e : Ex F F') (w : WdIS K y fl F E) : WdIS K y fl F' E := by
  cases fl with
  | nx ρ fs => exact fun F2 H2 σ2 e2 S => w F2 H2 σ2 (e.trans e2) S
  | ex x => exact w
theorem SI.grow {K : PySem.W.Frag} {y : Ix} {F H : Hp} {σ : L2.St} {ρ : Ro} {fs : Fs} (S : SI K y F H σ ρ fs) : GrowP y.p y.F0 y.B F H := by
  obtain ⟨fvs, _, _, S'⟩ := S.ex
  refine ⟨S'.f0, fun a o ha hb => S'.bh a o (by rw [upd_ne ha]; exact hb), S'.fh, S.fp, fun a o ha hb => S'.nw a o (by rw [upd_ne ha]; exact hb)⟩
def iSeq (g1 g2 : Ro → Fs → Option IFl) : Ro → Fs → Option IFl := fun ρ fs => match g1 ρ fs with
  | some (.nx ρ' fs') => g2 ρ' fs'
  | o => o
theorem putF_new {f : Str} {v : V} : ∀ {fvs : List (Str × V)}, f ∉ fvs.map (·.1) → putF f v fvs = fvs ++ [(f, v)]
  | [], _ => rfl
  | (g, u) :: r, h => by
    have h1 : ¬ g = f := fun q => h (by simp [q])
    have h2 : f ∉ r.map (·.1) := fun q => h (by simp [q])
    show (if g = f then (g, v) :: r else (g, u) :: putF f v r) = _
    rw [if_neg h1, putF_new h2]
    rfl
section
variable {X : Cx} {y : Ix} {st : Stmt} {rest : List Stmt} {g1 g2 : Ro → Fs → Option IFl} {g : Ro → Option Fl}
theorem ps_any {ι : Type} {t : ι → TS} (h : ∀ i, PS X st (t i)) : PS X st (fun E σ H => ∃ i, t i E σ H) := ⟨fun pins s σ H E I ⟨i, q⟩ => (h i).run pins s σ H E I q⟩
theorem pss_any {ι : Type} {sts : List Stmt} {t : ι → TS} (h : ∀ i, PSs X sts (t i)) : PSs X sts (fun E σ H => ∃ i, t i E σ H) := ⟨fun pins s σ H E I ⟨i, q⟩ => (h i).run pins s σ H E I q⟩
theorem pis_cons (h1 : PS X st (tIS X.K y g1)) (h2 : PSs X rest (tIF X.K y g2)) : PSs X (st :: rest) (tIF X.K y (iSeq g1 g2)) :=
  pss_wk (pss_cons h1 h2) fun E σ H ⟨F, ρ, fs, fl, S, e, w⟩ => by
    unfold iSeq at e
    cases eg : g1 ρ fs with
    | none => rw [eg] at e; cases e
    | some f1 =>
      rw [eg] at e
      cases f1 with
      | nx ρ' fs' => exact ⟨F, ρ, fs, .nx ρ' fs', S, eg, fun F' H' σ' G S' => ⟨F', ρ', fs', fl, S', e, by
          cases fl with
          | nx ρ fs => exact w
          | ex x => exact w⟩⟩
      | ex x => cases (Option.some.inj e); exact ⟨F, ρ, fs, _, S, eg, w⟩
def iNil : Ro → Fs → Option IFl := fun ρ fs => some (.nx ρ fs)
theorem pis_nil : PSs X [] (tIF X.K y iNil) := pss_wk pss_nil fun E σ H ⟨F, ρ, fs, fl, S, e, w⟩ => by
  cases (Option.some.inj e)
  obtain ⟨fvs, r, hp, _⟩ := S.ex
  exact w F H σ fvs S.grow hp r
/-- a statement that leaves the object alone -/
def iS (g : Ro → Option Fl) : Ro → Fs → Option IFl := fun ρ fs => match g ρ with
  | some (.nx ρ') => some (.nx ρ' fs)
  | some (.ex e _) => some (.ex e)
  | _ => none
theorem si_of {F F' H H' : Hp} {σ σ' : L2.St} {ρ ρ' : Ro} {fs : Fs} {fvs : List (Str × V)} (h0 : y.F0 y.p = none) (r : RepF X.K y.A F fvs fs) (e : Ex F F') (S : SR X.K y.A y.T (upd y.B y.p (.ins y.C y.dx fvs)) y.F0 F' H' σ' ρ') : SI X.K y F' H' σ' ρ' fs :=
  ⟨⟨fvs, ⟨r.1, r.2.mono e⟩, S.bh _ _ upd_same, S⟩, (S.nw _ _ upd_same).trans h0⟩
theorem pis_S (h0 : y.F0 y.p = none) (h : ∀ B', BOk y B' → PS X st (tS X.K (y.fx B') g)) : PS X st (tIS X.K y (iS g)) := ps_wk (ps_any fun (i : { B' : Hp // BOk y B' }) => h i.1 i.2) fun E σ H ⟨F, ρ, fs, fl, S, e, w⟩ => by
  obtain ⟨fvs, r, hp, S'⟩ := S.ex
  unfold iS at e
  cases eg : g ρ with
  | none => rw [eg] at e; cases e
  | some f1 =>
    rw [eg] at e
    refine ⟨⟨upd y.B y.p (.ins y.C y.dx fvs), bok_upd⟩, F, ρ, f1, S', eg, ?_⟩
    cases f1 with
    | nx ρ' =>
      cases (Option.some.inj e)
      exact fun F' H' σ' G S2 => w F' H' σ' G (si_of (X := X) (H := H') (σ := σ') (ρ := ρ') h0 r G S2)
    | ex x ρ' =>
      cases (Option.some.inj e)
      exact fun F' H' σ' G S2 dd q => w F' H' σ' dd (si_of (X := X) (fs := fs) (H := H') (σ := σ') (ρ := ρ') h0 r G S2).grow q
    | rt d => cases e
    | rto d => cases e
    | bk d => cases e
    | ct d => cases e
/-- slot 0 holds the new object -/
def isTk : Option Ent → Bool
  | some (.tk _) => true
  | _ => false
theorem isTk_ex {o : Option Ent} (h : isTk o = true) : ∃ n, o = some (.tk n) := by
  unfold isTk at h
  split at h
  · exact ⟨_, rfl⟩
  · cases h
def isT0 : Option Ent → Bool
  | some (.tk 0) => true
  | _ => false
theorem isT0_eq {o : Option Ent} (h : isT0 o = true) : o = some (.tk 0) := by
  unfold isT0 at h
  split at h
  · rfl
  · cases h
/-- self.f = e -/
def iSto (f : Str) (fe : Ro → EM D) : Ro → Fs → Option IFl := fun ρ fs => match fe ρ with
  | some (.ok d) => if isT0 ρ[0]? = true ∧ f ∉ fs.map (·.1) ∧ fs.length < 1000 then some (.nx ρ (fs ++ [(f, d)])) else none
  | some (.error e) => some (.ex e)
  | none => none
theorem pis_sto {f : Str} {a : Expr} {fe : Ro → EM D} (h0 : y.F0 y.p = none) (hst : ∀ tv, PE X a tv → PS X st (sFld X.K (tVar 0) tv f)) (he : ∀ B', BOk y B' → PE X a (tK X.K (y.fx B') .fz fe)) (cl : Cls X.K y.C) (no : NoAttr X.K y.C f) : PS X st (tIS X.K y (iSto f fe)) :=
  ps_wk (ps_any fun (i : { B' : Hp // BOk y B' }) => hst _ (he i.1 i.2)) fun E σ H ⟨F, ρ, fs, fl, S, e, w⟩ => by
    obtain ⟨fvs, r, hp, S'⟩ := S.ex
    refine ⟨⟨upd y.B y.p (.ins y.C y.dx fvs), bok_upd⟩, ?_⟩
    unfold iSto at e
    cases ef : fe ρ with
    | none => rw [ef] at e; cases e
    | some q =>
      rw [ef] at e
      cases q with
      | error x =>
        cases (Option.some.inj e)
        exact ⟨F, ρ, .error x, S', ef, fun F' H' dd G q => w F' H' σ dd (si_of (X := X) (fs := fs) (H := H') (σ := σ) (ρ := ρ) h0 r G.f (S'.grow G)).grow q⟩
      | ok d =>
        dsimp only at e
        by_cases hc : isT0 ρ[0]? = true ∧ f ∉ fs.map (·.1) ∧ fs.length < 1000
        · rw [if_pos hc] at e
          cases (Option.some.inj e)
          obtain ⟨hc3, hc1, hc2⟩ := hc
          have hn := isT0_eq hc3
          refine ⟨F, ρ, .ok d, S', ef, fun F1 H1 v G rv => ?_⟩
          have S1 := S'.grow G
          have hp1 := S1.bh _ _ (upd_same (H := y.B) (a := y.p) (o := .ins y.C y.dx fvs))
          have F1p : F1 y.p = none := (S1.nw _ _ upd_same).trans h0
          have hlen : fvs.length = fs.length := by have := congrArg List.length r.1; simpa using this
          refine ⟨.ref y.p, S1.tk 0 0 hn, y.p, y.C, y.dx, fvs, rfl, hp1, cl, no, by omega, ?_⟩
          have hnew : f ∉ fvs.map (·.1) := by rw [r.1]; exact hc1
          rw [putF_new hnew]
          refine w F1 _ σ G.f ⟨⟨fvs ++ [(f, v)], ⟨?_, ?_⟩, upd_same, ?_⟩, F1p⟩
          · rw [List.map_append, List.map_append, r.1]; rfl
          · rw [List.map_append, List.map_append]
            exact (r.2.mono G.f).app (.one rv)
          · refine ⟨S1.fh.mut F1p, fun c o hc => ?_, S1.f0, fun c o hc => ?_, S1.len, S1.fz, fun i ds hi => ?_, S1.sep, S1.tk⟩
            · by_cases q : c = y.p
              · subst q; rw [upd_same] at hc ⊢; exact hc
              · rw [upd_ne q] at hc ⊢
                exact S1.bh c o (by rw [upd_ne q]; exact hc)
            · by_cases q : c = y.p
              · subst q; rw [F1p, h0]
              · rw [upd_ne q] at hc
                exact S1.nw c o (by rw [upd_ne q]; exact hc)
            · obtain ⟨l, vs, h1, h2, h3, h4, h5⟩ := S1.ow i ds hi
              have hl : l ≠ y.p := ne_of h4 hp1 (by intro z; cases z)
              rw [upd_ne hl] at h3
              exact ⟨l, vs, h1, h2, by rw [upd_ne hl]; exact h3, by rw [upd_ne hl]; exact h4, h5⟩
        · rw [if_neg hc] at e; cases e
/-- Pot.__init__(self, ..) on an object that has no attributes yet -/
def iCal (names : List Str) (na : Nat) (mi : List D → EM (List D)) (fs : Ro → EM (List D)) : Ro → Fs → Option IFl := fun ρ as => if isT0 ρ[0]? = true ∧ as = [] then match fs ρ with
  | some (.ok ds) => if ds.length = na then match mi ds with
    | some (.ok zs) => if zs.length = names.length then some (.nx ρ (names.zip zs)) else none
    | some (.error e) => some (.ex e)
    | none => none
    else none
  | some (.error e) => some (.ex e)
  | none => none
  else none
theorem zip_fst {α β : Type} : ∀ {l : List α} {m : List β}, m.length = l.length → (l.zip m).map (·.1) = l
  | [], [], _ => rfl
  | a :: l, b :: m, h => by rw [List.zip_cons_cons, List.map_cons, zip_fst (by simpa using h)]
theorem zip_snd {α β : Type} : ∀ {l : List α} {m : List β}, m.length = l.length → (l.zip m).map (·.2) = m
  | [], [], _ => rfl
  | a :: l, b :: m, h => by rw [List.zip_cons_cons, List.map_cons, zip_snd (by simpa using h)]
theorem pis_cal {names : List Str} {na : Nat} {mi : List D → EM (List D)} {fa : Ro → EM (List D)} {es : List Expr} (h0 : y.F0 y.p = none) (hst : ∀ t, PA X es t → PS X st (tDrop (tCallG (spI X.K y.A y.C names na mi) [] (WE y.W) (tCons (tVar 0) t)))) (ha : ∀ B', BOk y B' → PA X es (tA X.K (y.fx B') .fz fa)) : PS X st (tIS X.K y (iCal names na mi fa)) :=
  ps_wk (ps_any fun (i : { B' : Hp // BOk y B' }) => hst _ (ha i.1 i.2)) fun E σ H ⟨F, ρ, fs, fl, S, e, w⟩ => by
    obtain ⟨fvs, r, hp, S'⟩ := S.ex
    refine ⟨⟨upd y.B y.p (.ins y.C y.dx fvs), bok_upd⟩, ?_⟩
    unfold iCal at e
    by_cases hc : isT0 ρ[0]? = true ∧ fs = []
    rotate_left
    · rw [if_neg hc] at e; cases e
    rw [if_pos hc] at e
    obtain ⟨hc3, hc1⟩ := hc
    have hn := isT0_eq hc3
    subst hc1
    have hv : fvs = [] := by
      have := r.1
      simpa using this
    subst hv
    cases ef : fa ρ with
    | none => rw [ef] at e; cases e
    | some q =>
      rw [ef] at e
      cases q with
      | error x =>
        cases (Option.some.inj e)
        exact ⟨.ref y.p, S'.tk 0 0 hn, F, ρ, .error x, S', ef, fun F' H' dd G q => w F' H' σ dd (si_of (X := X) (fs := []) (fvs := []) (H := H') (σ := σ) (ρ := ρ) h0 r G.f (S'.grow G)).grow q⟩
      | ok ds =>
        dsimp only at e
        by_cases hc2 : ds.length = na
        rotate_left
        · rw [if_neg hc2] at e; cases e
        · rw [if_pos hc2] at e
          refine ⟨.ref y.p, S'.tk 0 0 hn, F, ρ, .ok ds, S', ef, fun F1 H1 ws G rw' => ?_⟩
          have S1 := S'.grow G
          have hp1 := S1.bh _ _ (upd_same (H := y.B) (a := y.p) (o := .ins y.C y.dx []))
          have F1p : F1 y.p = none := (S1.nw _ _ upd_same).trans h0
          cases em : mi ds with
          | none => rw [em] at e; cases e
          | some q =>
            rw [em] at e
            refine ⟨y.p, y.dx, F1, ws, ds, q, by rw [List.append_nil], hp1, F1p, S1.fh, rw'.repL, hc2, em, ?_⟩
            have old : ∀ a o, a ≠ y.p → y.B a = some o → H1 a = some o := fun a o ha hb => S1.bh a o (by rw [upd_ne ha]; exact hb)
            cases q with
            | error x =>
              cases (Option.some.inj e)
              exact fun F' H' dd G2 q2 => w F' H' σ dd ⟨S1.f0.trans G2.f, fun a o ha hb => G2.h a o ha (old a o ha hb), G2.i, G2.fp, fun a o ha hb => (G2.n a o ha (old a o ha hb)).trans (S1.nw a o (by rw [upd_ne ha]; exact hb))⟩ q2
            | ok zs =>
              dsimp only at e
              split at e
              · rename_i hz
                cases (Option.some.inj e)
                intro F' H' fvs G2 hp2 hlen rf
                refine w F' H' σ (G.f.trans G2.f) ⟨⟨names.zip fvs, ⟨by rw [zip_fst hlen, zip_fst hz], by rw [zip_snd hlen, zip_snd hz]; exact rf⟩, hp2, ?_⟩, G2.fp⟩
                refine ⟨G2.i, fun c o hc => ?_, S1.f0.trans G2.f, fun c o hc => ?_, S1.len, fun i d hi => ?_, fun i ds' hi => ?_, S1.sep, S1.tk⟩
                · by_cases q : c = y.p
                  · subst q; rw [upd_same] at hc; rw [← hc]; exact hp2
                  · rw [upd_ne q] at hc
                    exact G2.h c o q (old c o q hc)
                · by_cases q : c = y.p
                  · subst q; rw [G2.fp, h0]
                  · rw [upd_ne q] at hc
                    exact (G2.n c o q (old c o q hc)).trans (S1.nw c o (by rw [upd_ne q]; exact hc))
                · obtain ⟨v, h1, h2⟩ := S1.fz i d hi
                  exact ⟨v, h1, h2.mono G2.f⟩
                · obtain ⟨l, vs, h1, h2, h3, h4, h5⟩ := S1.ow i ds' hi
                  have hl : l ≠ y.p := ne_of h4 hp1 (by intro z; cases z)
                  rw [upd_ne hl] at h3
                  exact ⟨l, vs, h1, (G2.n l _ hl h4).trans h2, by rw [upd_ne hl]; exact h3, G2.h l _ hl h4, h5.mono G2.f⟩
              · cases e
/-- behind all attributes the object is as any other -/
def iPost (c : Cl) (g : Ro → Option Fl) : Ro → Fs → Option IFl := fun ρ fs => if isT0 ρ[0]? = true ∧ fs.map (·.1) = c.names then match g (ρ.set 0 (.fz (.obj c (fs.map (·.2))))) with
    | some (.nx ρ') => some (.nx ρ' fs)
    | some (.ex e _) => some (.ex e)
    | _ => none
  else none
theorem zip_self {α : Type} : ∀ (l : List (Str × α)), (l.map (·.1)).zip (l.map (·.2)) = l
  | [] => rfl
  | a :: l => by rw [List.map_cons, List.map_cons, List.zip_cons_cons, zip_self l]
theorem pis_post {c : Cl} (h0 : y.F0 y.p = none) (hc : y.A.has c = true) (eC : y.C = y.A.cl c) (h : ∀ B' F0', PSs X rest (tS X.K ⟨y.A, y.T, B', F0', y.W⟩ g)) : PSs X rest (tIF X.K y (iPost c g)) := pss_wk (pss_any fun (i : Hp × Hp) => h i.1 i.2) fun E σ H ⟨F, ρ, fs, fl, S, e, w⟩ => by
  obtain ⟨fvs, r, hp, S'⟩ := S.ex
  unfold iPost at e
  by_cases hcc : isT0 ρ[0]? = true ∧ fs.map (·.1) = c.names
  rotate_left
  · rw [if_neg hcc] at e; cases e
  rw [if_pos hcc] at e
  obtain ⟨hc3, hnm⟩ := hcc
  have hn := isT0_eq hc3
  have hv := S'.tk 0 0 hn
  have hz : c.names.zip (fvs.map (·.2)) = fvs := by rw [← hnm, ← r.1]; exact zip_self fvs
  have ex : Ex F (upd F y.p (.ins y.C y.dx fvs)) := .new S.fp
  have hlen : (fvs.map (·.2)).length = c.names.length := by rw [← hnm, ← r.1, List.length_map, List.length_map]
  have ro : Rep X.K y.A (upd F y.p (.ins y.C y.dx fvs)) (.ref y.p) (.obj c (fs.map (·.2))) := by
    refine Rep.obj (dx := y.dx) (vs := fvs.map (·.2)) hc ?_ hlen (r.2.mono ex)
    rw [hz, ← eC]
    exact upd_same
  have S2 : SR X.K y.A y.T (upd y.B y.p (.ins y.C y.dx fvs)) (upd y.F0 y.p (.ins y.C y.dx fvs)) (upd F y.p (.ins y.C y.dx fvs)) H σ ρ := by
    refine ⟨fun a o ha => ?_, S'.bh, fun a o ha => ?_, fun a o ha => ?_, S'.len, fun i d hi => ?_, fun i ds hi => ?_, S'.sep, S'.tk⟩
    · by_cases q : a = y.p
      · subst q; rw [upd_same] at ha; rw [← ha]; exact hp
      · rw [upd_ne q] at ha; exact S'.fh a o ha
    · by_cases q : a = y.p
      · subst q; rw [upd_same] at ha ⊢; exact ha
      · rw [upd_ne q] at ha ⊢; exact S'.f0 a o ha
    · by_cases q : a = y.p
      · subst q; rw [upd_same, upd_same]
      · rw [upd_ne q, upd_ne q]; exact S'.nw a o ha
    · obtain ⟨v, h1, h2⟩ := S'.fz i d hi
      exact ⟨v, h1, h2.mono ex⟩
    · obtain ⟨l, vs, h1, h2, h3, h4, h5⟩ := S'.ow i ds hi
      have hl : l ≠ y.p := ne_of h4 hp (by intro z; cases z)
      exact ⟨l, vs, h1, by rw [upd_ne hl]; exact h2, h3, h4, h5.mono ex⟩
  have ne0 : ∀ i e, (ρ.set 0 (.fz (.obj c (fs.map (·.2)))))[i]? = some e → (i = 0 ∧ e = .fz (.obj c (fs.map (·.2)))) ∨ (i ≠ 0 ∧ ρ[i]? = some e) := fun i e hi => by
    by_cases q : i = 0
    · subst q
      rw [List.getElem?_set] at hi
      rw [if_pos rfl] at hi
      split at hi
      · exact .inl ⟨rfl, (Option.some.inj hi).symm⟩
      · cases hi
    · rw [List.getElem?_set_ne (fun z => q z.symm)] at hi
      exact .inr ⟨q, hi⟩
  have S3 : SR X.K y.A y.T (upd y.B y.p (.ins y.C y.dx fvs)) (upd y.F0 y.p (.ins y.C y.dx fvs)) (upd F y.p (.ins y.C y.dx fvs)) H σ (ρ.set 0 (.fz (.obj c (fs.map (·.2))))) := by
    refine ⟨S2.fh, S2.bh, S2.f0, S2.nw, by rw [List.length_set]; exact S2.len, fun i d hi => ?_, fun i ds hi => ?_, fun i j ds es hij hi hj => ?_, fun i n hi => ?_⟩
    · rcases ne0 i _ hi with ⟨rfl, h2⟩ | ⟨_, h2⟩
      · cases h2
        exact ⟨_, hv, ro⟩
      · exact S2.fz i d h2
    · rcases ne0 i _ hi with ⟨_, h2⟩ | ⟨_, h2⟩
      · cases h2
      · exact S2.ow i ds h2
    · rcases ne0 i _ hi with ⟨_, h2⟩ | ⟨_, h2⟩
      · cases h2
      rcases ne0 j _ hj with ⟨_, h3⟩ | ⟨_, h3⟩
      · cases h3
      exact S2.sep i j ds es hij h2 h3
    · rcases ne0 i _ hi with ⟨_, h2⟩ | ⟨_, h2⟩
      · cases h2
      · exact S2.tk i n h2
  have fin : ∀ F' H' σ' ρ', Ex (upd F y.p (.ins y.C y.dx fvs)) F' → SR X.K y.A y.T (upd y.B y.p (.ins y.C y.dx fvs)) (upd y.F0 y.p (.ins y.C y.dx fvs)) F' H' σ' ρ' → GrowP y.p y.F0 y.B F H' ∧ H' y.p = some (.ins y.C y.dx fvs) := fun F' H' σ' ρ' e' Z => by
    refine ⟨⟨S'.f0, fun a o ha hb => Z.bh a o (by rw [upd_ne ha]; exact hb), (ex.trans e').trans Z.fh, S.fp, fun a o ha hb => S'.nw a o (by rw [upd_ne ha]; exact hb)⟩, Z.bh _ _ upd_same⟩
  cases eg : g (ρ.set 0 (.fz (.obj c (fs.map (·.2))))) with
  | none => rw [eg] at e; cases e
  | some f1 =>
    rw [eg] at e
    refine ⟨(upd y.B y.p (.ins y.C y.dx fvs), upd y.F0 y.p (.ins y.C y.dx fvs)), upd F y.p (.ins y.C y.dx fvs), _, f1, S3, eg, ?_⟩
    cases f1 with
    | nx ρ' =>
      cases (Option.some.inj e)
      exact fun F' H' σ' G Z => w F H' σ' fvs (fin F' H' σ' ρ' G Z).1 (fin F' H' σ' ρ' G Z).2 r
    | ex x ρ' =>
      cases (Option.some.inj e)
      exact fun F' H' σ' G Z dd q => w F H' σ' dd (fin F' H' σ' ρ' G Z).1 q
    | rt d => cases e
    | rto d => cases e
    | bk d => cases e
    | ct d => cases e
end
end Tw
/-! TwK: the dict of names that Garden's __init__ fills. -/
namespace Tw
open PySem PySem.Spec PyProof.Rows L2
def tk0 (ρ : Ro) : Bool := ρ.all fun e => match e with
  | .tk n => n == 0 || n == 2
  | _ => true
theorem tk0_of {ρ : Ro} (h : tk0 ρ = true) {j n : Nat} (e : ρ[j]? = some (.tk n)) : n = 0 ∨ n = 2 := by
  have := List.all_eq_true.mp h _ (List.mem_of_getElem? e)
  simpa using this
def Ix.TN (y : Ix) (l : Addr) : Nat → V := fun n => if n = 0 then .ref y.p else if n = 2 then .ref y.q else .ref l
def Ix.BN (y : Ix) (l : Addr) (ks : List (Str × Int)) : Hp := upd (upd y.B y.p (.ins y.C y.dx [])) l (.dK (ordK ks))
def Ix.fxN (y : Ix) (l : Addr) (ks : List (Str × Int)) : Fx := ⟨y.A, y.TN l, y.BN l ks, y.F0, y.W⟩
structure SN (K : PySem.W.Frag) (y : Ix) (i : Nat) (l : Addr) (ks : List (Str × Int)) (F H : Hp) (σ : L2.St) (ρ : Ro) : Prop where
  fp : F y.p = none
  lp : l ≠ y.p
  fl : F l = none
  f0 : y.F0 l = none
  bl : y.B l = none
  sr : SR K y.A (y.TN l) (y.BN l ks) y.F0 F H σ ρ
  t0 : ∀ j n, ρ[j]? = some (.tk n) → j ≠ i → n = 0 ∨ n = 2
section
variable {K : PySem.W.Frag} {y : Ix} {i l : Nat} {ks : List (Str × Int)} {F H : Hp} {σ : L2.St} {ρ : Ro}
theorem SN.hl (N : SN K y i l ks F H σ ρ) : H l = some (.dK (ordK ks)) := N.sr.bh _ _ upd_same
theorem SN.new (h0 : y.F0 y.p = none) (S : SI K y F H σ ρ []) (ht : tk0 ρ = true) (hl : H l = none) : SN K y i l [] F (upd H l (.dK [])) (σ.set i (some (.ref l))) (ρ.set i (.tk 1)) := by
  obtain ⟨fvs, r, hp, S'⟩ := S.ex
  have hv : fvs = [] := by
    have := r.1
    simpa using this
  subst hv
  have Fl : F l = none := S'.fh.free hl
  have lp : l ≠ y.p := fun z => by rw [z, hp] at hl; cases hl
  have Bl : y.B l = none := by
    have := S'.bh.free hl
    rwa [upd_ne lp] at this
  refine ⟨S.fp, lp, Fl, S'.f0.free Fl, Bl, ?_, fun j n e hj => ?_⟩
  · refine ⟨fun a o ha => ?_, fun a o ha => ?_, S'.f0, fun a o ha => ?_, by rw [List.length_set, List.length_set, S'.len], fun j d hj => ?_, fun j ds hj => ?_, fun j k ds es hne hj hk => ?_, fun j n hj => ?_⟩
    · rw [upd_ne (ne_of_none ha Fl)]; exact S'.fh a o ha
    · unfold Ix.BN at ha
      by_cases q : a = l
      · subst q; rw [upd_same] at ha ⊢; exact ha
      · rw [upd_ne q] at ha ⊢; exact S'.bh a o ha
    · unfold Ix.BN at ha
      by_cases q : a = l
      · subst q; rw [Fl, S'.f0.free Fl]
      · rw [upd_ne q] at ha; exact S'.nw a o ha
    · rcases set_get hj with ⟨rfl, q⟩ | ⟨q, h'⟩
      · cases q
      · obtain ⟨w, h1, h2⟩ := S'.fz j d h'
        exact ⟨w, by rw [List.getElem?_set_ne (Ne.symm q)]; exact h1, h2⟩
    · rcases set_get hj with ⟨rfl, q⟩ | ⟨q, h'⟩
      · cases q
      · obtain ⟨m, vs, h1, h2, h3, h4, h5⟩ := S'.ow j ds h'
        have ml : m ≠ l := ne_of_none h4 hl
        refine ⟨m, vs, by rw [List.getElem?_set_ne (Ne.symm q)]; exact h1, h2, ?_, by rw [upd_ne ml]; exact h4, h5⟩
        show upd _ l _ m = none
        rw [upd_ne ml]; exact h3
    · rcases set_get hj with ⟨rfl, q⟩ | ⟨q, hj'⟩
      · cases q
      · rcases set_get hk with ⟨rfl, q2⟩ | ⟨q2, hk'⟩
        · cases q2
        · rw [List.getElem?_set_ne (Ne.symm q), List.getElem?_set_ne (Ne.symm q2)]
          exact S'.sep j k ds es hne hj' hk'
    · rcases set_get hj with ⟨rfl, q⟩ | ⟨q, h'⟩
      · cases q
        have hlt : j < σ.length := by
          have := (List.getElem?_eq_some_iff.mp hj).1
          rw [List.length_set] at this
          rw [S'.len]; exact this
        exact List.getElem?_set_self hlt
      · rw [List.getElem?_set_ne (Ne.symm q)]
        rcases tk0_of ht h' with rfl | rfl
        · exact S'.tk j 0 h'
        · exact S'.tk j 2 h'
  · rcases set_get e with ⟨q, _⟩ | ⟨_, h'⟩
    · exact absurd q hj
    · exact tk0_of ht h'
theorem SN.grow {F' H' : Hp} (N : SN K y i l ks F H σ ρ) (G : Grow F H F' H') : SN K y i l ks F' H' σ ρ := by
  have b1 : y.BN l ks l = some (.dK (ordK ks)) := upd_same
  have b2 : y.BN l ks y.p = some (.ins y.C y.dx []) := by
    show upd _ l _ y.p = _
    rw [upd_ne (fun z => N.lp z.symm), upd_same]
  exact ⟨by rw [G.n _ _ (N.sr.bh _ _ b2)]; exact N.fp, N.lp, by rw [G.n _ _ (N.sr.bh _ _ b1)]; exact N.fl, N.f0, N.bl, N.sr.grow G, N.t0⟩
theorem SN.of {F' H' : Hp} {σ' : L2.St} {ρ' : Ro} (h0 : y.F0 y.p = none) (N : SN K y i l ks F H σ ρ) (S : SR K y.A (y.TN l) (y.BN l ks) y.F0 F' H' σ' ρ') (ht : ∀ j n, ρ'[j]? = some (.tk n) → j ≠ i → n = 0 ∨ n = 2) : SN K y i l ks F' H' σ' ρ' := by
  have b1 : y.BN l ks l = some (.dK (ordK ks)) := upd_same
  have b2 : y.BN l ks y.p = some (.ins y.C y.dx []) := by
    show upd _ l _ y.p = _
    rw [upd_ne (fun z => N.lp z.symm), upd_same]
  exact ⟨by rw [S.nw _ _ b2]; exact h0, N.lp, by rw [S.nw _ _ b1]; exact N.f0, N.f0, N.bl, S, ht⟩
theorem SN.put {ks' : List (Str × Int)} (N : SN K y i l ks F H σ ρ) : SN K y i l ks' F (upd H l (.dK (ordK ks'))) σ ρ := by
  refine ⟨N.fp, N.lp, N.fl, N.f0, N.bl, ?_, N.t0⟩
  have S := N.sr
  refine ⟨fun a o ha => ?_, fun a o ha => ?_, S.f0, fun a o ha => ?_, S.len, S.fz, fun j ds hj => ?_, S.sep, S.tk⟩
  · rw [upd_ne (ne_of_none ha N.fl)]; exact S.fh a o ha
  · by_cases q : a = l
    · subst q
      have : y.BN a ks' a = some (.dK (ordK ks')) := upd_same
      rw [this] at ha; rw [upd_same]; exact ha
    · have e1 : y.BN l ks' a = y.BN l ks a := by unfold Ix.BN; rw [upd_ne q, upd_ne q]
      rw [e1] at ha; rw [upd_ne q]; exact S.bh a o ha
  · by_cases q : a = l
    · subst q; rw [N.fl, N.f0]
    · have e1 : y.BN l ks' a = y.BN l ks a := by unfold Ix.BN; rw [upd_ne q, upd_ne q]
      rw [e1] at ha; exact S.nw a o ha
  · obtain ⟨m, vs, h1, h2, h3, h4, h5⟩ := S.ow j ds hj
    have ml : m ≠ l := fun z => by
      subst z
      have : y.BN m ks m = some (.dK (ordK ks)) := upd_same
      rw [this] at h3; cases h3
    have e1 : y.BN l ks' m = y.BN l ks m := by unfold Ix.BN; rw [upd_ne ml, upd_ne ml]
    exact ⟨m, vs, h1, h2, by rw [e1]; exact h3, by rw [upd_ne ml]; exact h4, h5⟩
theorem SN.growP (N : SN K y i l ks F H σ ρ) : GrowP y.p y.F0 y.B F H := by
  have S := N.sr
  have ne : ∀ a o, y.B a = some o → a ≠ l := fun a o ha => ne_of_none ha N.bl
  have e1 : ∀ a o, a ≠ y.p → y.B a = some o → y.BN l ks a = some o := fun a o hp ha => by
    unfold Ix.BN
    rw [upd_ne (ne a o ha), upd_ne hp]; exact ha
  exact ⟨S.f0, fun a o hp ha => S.bh a o (e1 a o hp ha), S.fh, N.fp, fun a o hp ha => S.nw a o (e1 a o hp ha)⟩
theorem SN.lent {ks' : List (Str × Int)} {G : Hp} (N : SN K y i l ks F H σ ρ) (eG : Ex G (y.BN l ks')) (lG : LstH G) : Ex G H := fun a o ha => by
  have h1 := eG a o ha
  obtain ⟨vs, rfl⟩ := lG a o ha
  refine N.sr.bh a _ ?_
  by_cases q : a = l
  · subst q
    have : y.BN a ks' a = some (.dK (ordK ks')) := upd_same
    rw [this] at h1; cases h1
  · unfold Ix.BN at h1 ⊢
    rw [upd_ne q] at h1 ⊢; exact h1
/-- the dict is done: it is as any other value -/
theorem SN.done (N : SN K y i l ks F H σ ρ) (hi : ρ[i]? = some (.tk 1)) : ∃ F', Ex F F' ∧ SI K y F' H σ (ρ.set i (.fz (.ord ks))) [] := by
  have S := N.sr
  have hl := N.hl
  have ex : Ex F (upd F l (.dK (ordK ks))) := .new N.fl
  have hp : H y.p = some (.ins y.C y.dx []) := S.bh _ _ (by show upd _ l _ y.p = _; rw [upd_ne (fun z => N.lp z.symm), upd_same])
  have hv : σ[i]? = some (some (.ref l)) := S.tk i 1 hi
  have Bl : upd y.B y.p (.ins y.C y.dx []) l = none := by rw [upd_ne N.lp]; exact N.bl
  refine ⟨_, ex, ⟨[], ⟨rfl, .nil⟩, hp, ?_⟩, by rw [upd_ne (fun z => N.lp z.symm)]; exact N.fp⟩
  have eB : ∀ a o, upd y.B y.p (.ins y.C y.dx []) a = some o → a ≠ l ∧ y.BN l ks a = some o := fun a o ha => by
    have q := ne_of_none ha Bl
    exact ⟨q, by unfold Ix.BN; rw [upd_ne q]; exact ha⟩
  refine ⟨fun a o ha => ?_, fun a o ha => S.bh a o (eB a o ha).2, S.f0.trans ex, fun a o ha => ?_, by rw [List.length_set]; exact S.len, fun j d hj => ?_, fun j ds hj => ?_, fun j k ds es hne hj hk => ?_, fun j n hj => ?_⟩
  · by_cases q : a = l
    · subst q; rw [upd_same] at ha; rw [← ha]; exact hl
    · rw [upd_ne q] at ha; exact S.fh a o ha
  · rw [upd_ne (eB a o ha).1]; exact S.nw a o (eB a o ha).2
  · rcases set_get hj with ⟨rfl, q⟩ | ⟨q, h'⟩
    · cases q
      exact ⟨_, hv, .ord upd_same⟩
    · obtain ⟨w, h1, h2⟩ := S.fz j d h'
      exact ⟨w, h1, h2.mono ex⟩
  · rcases set_get hj with ⟨rfl, q⟩ | ⟨q, h'⟩
    · cases q
    · obtain ⟨m, vs, h1, h2, h3, h4, h5⟩ := S.ow j ds h'
      have ml : m ≠ l := fun z => by
        subst z
        have : y.BN m ks m = some (.dK (ordK ks)) := upd_same
        rw [this] at h3; cases h3
      refine ⟨m, vs, h1, by rw [upd_ne ml]; exact h2, ?_, h4, h5.mono ex⟩
      unfold Ix.BN at h3
      rw [upd_ne ml] at h3; exact h3
  · rcases set_get hj with ⟨rfl, q⟩ | ⟨q, hj'⟩
    · cases q
    · rcases set_get hk with ⟨rfl, q2⟩ | ⟨q2, hk'⟩
      · cases q2
      · exact S.sep j k ds es hne hj' hk'
  · rcases set_get hj with ⟨rfl, q⟩ | ⟨q, h'⟩
    · cases q
    · rcases N.t0 j n h' q with rfl | rfl
      · exact S.tk j 0 h'
      · exact S.tk j 2 h'
end
/-- a pot's name -/
def nmOf (d : D) : Option Str := match d with
  | .obj .pot (.str s :: _) => some s
  | .obj .cactus (.str s :: _) => some s
  | _ => none
theorem nmOf_fld {d : D} {s : Str} (h : nmOf d = some s) : dFld "name" d = ok (.str s) := by
  unfold nmOf at h
  split at h
  · cases (Option.some.inj h); rfl
  · cases (Option.some.inj h); rfl
  · cases h
def hasN (ks : List (Str × Int)) (s : Str) : Bool := ks.any fun k => decide (k.1 = s)
theorem ord_val {ks : List (Str × Int)} {s : Str} : (valV (ordK ks) (Sum.inr s)).isSome = hasN ks s := by
  rw [← valV_any]
  unfold ordK hasN
  induction ks with
  | nil => rfl
  | cons k ks ih =>
    rw [List.map_cons, List.any_cons, List.any_cons, ih]
    congr 1
    exact decide_eq_decide.mpr ⟨fun q => Sum.inr.inj q, fun q => by rw [q]⟩
theorem ord_put {ks : List (Str × Int)} {s : Str} {n : Int} (h : hasN ks s = false) : putK (ordK ks) (Sum.inr s) (.int n) = ordK (ks ++ [(s, n)]) := by
  unfold putK
  have : ((ordK ks).any fun kv => decide (kv.1 = Sum.inr s)) = false := by rw [valV_any, ord_val]; exact h
  rw [this]
  unfold ordK
  rw [List.map_append]
  rfl
def namesGo : List D → List (Str × Int) → Option (Option (List (Str × Int)))
  | [], ks => some (some ks)
  | d :: ds, ks => match nmOf d with
    | none => none
    | some s => if hasN ks s = true then some none else namesGo ds (ks ++ [(s, (ks.length : Int))])
section
variable {X : Cx} {y : Ix}
def tNB (K : PySem.W.Frag) (y : Ix) (i ip : Nat) : TS := fun E σ H => ∃ l ks F ρ d s, SN K y i l ks F H σ ρ ∧ ρ[i]? = some (.tk 1) ∧ ρ[ip]? = some (.fz d) ∧ nmOf d = some s ∧ ks.length < 100000 ∧
  if hasN ks s = true then ∀ F' H' σ' dd, GrowP y.p y.F0 y.B F' H' → XR H' .badPot dd → y.W (.ref (y.A.xc .badPot)) dd σ' H'
  else ∀ F' H', Ex F F' → SN K y i l (ks ++ [(s, (ks.length : Int))]) F' H' σ ρ → E.nx σ H'
theorem pis_nbody {i ip : Nat} {en ev en2 ev2 el : Expr} {rs : List Stmt} {p1 p2 p3 p4 : Pos} (hu : X.A.units + 1 < PySem.cLine) (hn : ∀ l ks, PE X en (tK X.K (y.fxN l ks) .fz (e1 (dFld "name") (eVarB ip)))) (hv : PE X ev (tVar i))
    (hn2 : ∀ l ks, PE X en2 (tK X.K (y.fxN l ks) .fz (e1 (dFld "name") (eVarB ip)))) (hv2 : PE X ev2 (tVar i)) (hr : ∀ l ks, PSs X rs (tS X.K (y.fxN l ks) (sRaise .badPot)))
    (hl : PE X el (tCB (fun xs H Q => ∃ a kvs, xs = [V.ref a] ∧ H a = some (.dK kvs) ∧ Q (.int kvs.length) H) (tCons (tVar i) tNil))) (h1 : behindInMarks .In ev = false) (hs : swapsWith el (some (.Subscript ev2 en2 p3)) p4.line X.env = pure false) :
    PSs X [.If (.Compare en [.In] [ev] p1) rs [] p2, .Assign [.Subscript ev2 en2 p3] el p4] (tNB X.K y i ip) := by
  have a1 := pe_any fun (z : Addr × List (Str × Int)) => hn z.1 z.2
  have a2 := pe_any fun (z : Addr × List (Str × Int)) => hn2 z.1 z.2
  have a3 := pss_any fun (z : Addr × List (Str × Int)) => hr z.1 z.2
  refine pss_wk (pss_cons (ps_if (pt_cmp (pc_din hu a1 hv) h1) a3 pss_nil) (pss_one (ps_dput hu hv2 a2 hl hs))) fun E σ H q => ?_
  obtain ⟨l, ks, F, ρ, d, s, N, ei, ep, es, hlen, q⟩ := q
  have e1 : Tw.e1 (dFld "name") (eVarB ip) ρ = ok (.str s) := by
    unfold Tw.e1 eVarB
    rw [ep]
    exact nmOf_fld es
  refine ⟨(l, ks), F, ρ, .ok (.str s), N.sr, e1, fun F1 H1 v G r => ?_⟩
  have hvs : v = .str s := by cases (show Rep X.K y.A F1 v (.str s) from r); rfl
  subst hvs
  have N1 := N.grow G
  refine ⟨.ref l, N1.sr.tk i 1 ei, l, _, rfl, DGet.k (k := Sum.inr s) N1.hl, _, rfl, ?_⟩
  rw [ord_val]
  cases hh : hasN ks s with
  | true =>
    rw [if_pos hh] at q
    rw [if_pos rfl]
    exact ⟨(l, ks), F1, ρ, .ex .badPot ρ, N1.sr, rfl, fun F2 H2 σ2 e2 S2 dd xr => q F2 H2 σ2 dd (N1.of (by
      have b2 : y.BN l ks y.p = some (.ins y.C y.dx []) := by
        show upd _ l _ y.p = _
        rw [upd_ne (fun z => N1.lp z.symm), upd_same]
      rw [← N1.sr.nw _ _ b2]; exact N1.fp) S2 N1.t0).growP xr⟩
  | false =>
    rw [if_neg (by rw [hh]; decide)] at q
    rw [if_neg (by decide)]
    refine ⟨.ref l, N1.sr.tk i 1 ei, l, _, rfl, N1.hl, ?_⟩
    refine ⟨.ref l, N1.sr.tk i 1 ei, (l, ks), F1, ρ, .ok (.str s), N1.sr, e1, fun F2 H2 v2 G2 r2 => ?_⟩
    have hvs : v2 = .str s := by cases (show Rep X.K y.A F2 v2 (.str s) from r2); rfl
    subst hvs
    have N2 := N1.grow G2
    refine ⟨l, _, rfl, DPut.k (k := Sum.inr s) N2.hl (by unfold ordK; rw [List.length_map]; exact Nat.lt_trans hlen (by decide)), ?_⟩
    rw [ord_put hh]
    have el : ((ordK ks).length : Int) = (ks.length : Int) := by unfold ordK; rw [List.length_map]
    rw [el]
    exact q _ _ (G.f.trans G2.f) N2.put
def isUn : Option Ent → Bool
  | some .un => true
  | _ => false
theorem isUn_eq {o : Option Ent} (h : isUn o = true) : o = some .un := by
  unfold isUn at h
  split at h
  · rfl
  · cases h
def iNames (i ip : Nat) (fi : Ro → EM (List D)) (g2 : Ro → Fs → Option IFl) : Ro → Fs → Option IFl := fun ρ fs => if tk0 ρ = true ∧ fs = [] ∧ ip ≠ i ∧ isUn ρ[ip]? = true ∧ i < ρ.length then match fi (ρ.set i (.tk 1)) with
    | some (.ok ds) => if ds.length < 100000 then match namesGo ds [] with
      | some (some ks) => g2 (ρ.set i (.fz (.ord ks))) []
      | some none => some (.ex .badPot)
      | none => none
      else none
    | _ => none
  else none
theorem pi_any {tg e : Expr} {ι : Type} {t : ι → TI} (h : ∀ i, PI X tg e (t i)) : PI X tg e (fun σ H R => ∃ i, t i σ H R) := ⟨fun pins s σ H R I ⟨i, q⟩ => (h i).run pins s σ H R I q⟩
theorem pis_names {i ip : Nat} {fi : Ro → EM (List D)} {a iter tg : Expr} {st1 : Stmt} {body rest : List Stmt} {pos : Pos} {g2 : Ro → Fs → Option IFl} (h0 : y.F0 y.p = none) (hp : PassesOwn (model X.prog X.w) X.A X.env X.xe) (hc : X.calm = true) (h1 : PS X st1 (tAsg tDNewK (gName i)))
    (hi : ∀ l ks, y.B l = none → PI X tg iter (tI X.K (y.fxN l ks) fi)) (hg : PG X tg (gName ip)) (hb : PSs X body (tNB X.K y i ip)) (hr : PSs X rest (tIF X.K y g2)) (hs : ∀ z, foldedSetIterable iter X.env z = pure z := by intro _; rfl) :
    PSs X (st1 :: .For tg iter body [] pos :: rest) (tIF X.K y (iNames i ip fi g2)) := by
  refine pss_wk (pss_cons h1 (pss_cons (ps_for hp hc (pi_any fun (z : { z : Addr × List (Str × Int) // y.B z.1 = none }) => hi z.1.1 z.1.2 z.2) hg hb hs) hr)) fun E σ H ⟨F, ρ, fs, fl, S, e, w⟩ => ?_
  unfold iNames at e
  by_cases hh : tk0 ρ = true ∧ fs = [] ∧ ip ≠ i ∧ isUn ρ[ip]? = true ∧ i < ρ.length
  rotate_left
  · rw [if_neg hh] at e; cases e
  rw [if_pos hh] at e
  obtain ⟨ht, hfs, n1, hun, hil⟩ := hh
  subst hfs
  have hun := isUn_eq hun
  split at e
  rotate_left
  · cases e
  rename_i ds hq
  by_cases hds : ds.length < 100000
  rotate_left
  · rw [if_neg hds] at e; cases e
  rw [if_pos hds] at e
  intro l hl
  have N := SN.new (i := i) h0 S ht hl
  generalize er1 : ρ.set i (.tk 1) = ρ1 at N
  have u1 : ρ1[ip]? = some .un := by rw [← er1, List.getElem?_set_ne (Ne.symm n1)]; exact hun
  rw [er1] at hq
  have t1 : ρ1[i]? = some (.tk 1) := by rw [← er1]; exact List.getElem?_set_self hil
  refine ⟨⟨(l, []), N.bl⟩, F, ρ1, .ok ds, N.sr, hq, fun F1 H1 J Gq G eG lG hit => ?_⟩
  have N1 := N.grow G
  cases er : namesGo ds [] with
  | none => rw [er] at e; cases e
  | some r =>
    rw [er] at e
    refine ⟨fun k m σ' H' => m = ds.length - k ∧ ∃ ks F2, Ex F1 F2 ∧ SN X.K y i l ks F2 H' σ' ρ1 ∧ ks.length = k ∧ namesGo (ds.drop k) ks = some r, ⟨ds.length, rfl, [], F1, .refl _, N1, rfl, er⟩, ?_⟩
    rintro k m σ2 H2 ⟨rfl, ks, F2, ex, N2, hk, e2⟩
    cases ed : ds[k]? with
    | none =>
      have hle : ds.length ≤ k := List.getElem?_eq_none_iff.mp ed
      rw [List.drop_eq_nil_of_le hle] at e2
      cases (Option.some.inj e2)
      obtain ⟨F3, ex3, SI3⟩ := N2.done t1
      have e' : g2 (ρ.set i (.fz (.ord ks))) [] = some fl := e
      have eset : ρ1.set i (.fz (.ord ks)) = ρ.set i (.fz (.ord ks)) := by rw [← er1, List.set_set]
      rw [eset] at SI3
      refine .inl ⟨hit.stop k H2 (ex.trans N2.sr.fh) (N2.lent eG lG) hle, F3, _, [], fl, SI3, e', ?_⟩
      cases fl with
      | nx ρ fs => exact w
      | ex x => exact w
    | some d =>
      have hlt : k < ds.length := (List.getElem?_eq_some_iff.mp ed).1
      have hd : ds.drop k = d :: ds.drop (k + 1) := by
        rw [List.drop_eq_getElem_cons hlt, (List.getElem?_eq_some_iff.mp ed).2]
      rw [hd] at e2
      refine .inr ⟨hit.go k d H2 (ex.trans N2.sr.fh) (N2.lent eG lG) ed, fun σ' H' => ∃ ks F3, Ex F1 F3 ∧ SN X.K y i l ks F3 H' σ' ρ1 ∧ ks.length = k + 1 ∧ namesGo (ds.drop (k + 1)) ks = some r, fun σ' H' n => ⟨ds.length - (k + 1), by omega, rfl, n⟩, fun v H' hy => ?_⟩
      obtain ⟨F3, G3, rv⟩ := hit.yld k d F2 H2 v H' ex N2.sr.fh (N2.lent eG lG) ed hy
      have N3 := N2.grow G3
      unfold namesGo at e2
      cases es : nmOf d with
      | none => rw [es] at e2; cases e2
      | some s =>
        rw [es] at e2
        dsimp only at e2
        have hpl : ip < ρ1.length := (List.getElem?_eq_some_iff.mp u1).1
        have Sset := N3.sr.setF (i := ip) rv
        have N4 : SN X.K y i l ks F3 H' (σ2.set ip (some v)) (ρ1.set ip (.fz d)) := N3.of h0 Sset fun j n hj hne => by
          rcases set_get hj with ⟨_, q⟩ | ⟨_, h'⟩
          · cases q
          · exact N3.t0 j n h' hne
        refine ⟨l, ks, F3, ρ1.set ip (.fz d), d, s, N4, by rw [List.getElem?_set_ne n1]; exact t1, List.getElem?_set_self hpl, es, by omega, ?_⟩
        cases hh : hasN ks s with
        | true =>
          rw [if_pos rfl]
          rw [hh, if_pos rfl] at e2
          cases (Option.some.inj e2)
          cases (Option.some.inj e)
          exact w
        | false =>
          rw [if_neg (by decide)]
          rw [hh, if_neg (by decide)] at e2
          intro F5 H5 e5 N5
          exact ⟨_, F5, (ex.trans G3.f).trans e5, N5.of h0 (by
            have := N5.sr.drop (i := ip)
            rwa [List.set_set, show ρ1.set ip Ent.un = ρ1 from by
              apply List.ext_getElem?
              intro j
              by_cases q : j = ip
              · subst q; rw [List.getElem?_set_self hpl, u1]
              · rw [List.getElem?_set_ne (Ne.symm q)]] at this) N3.t0, by rw [List.length_append, hk]; rfl, e2⟩
end
end Tw
/-! TwL: an __init__ by its body; Pot.__init__(self, ..). -/
namespace Tw
open PySem PySem.Spec PyProof.Rows L2
def startI (n : Nat) (ds : List D) : Ro := .tk 0 :: startE (n - 1) ds
def runI (names : List Str) (n : Nat) (body : Ro → Fs → Option IFl) (ds : List D) : EM (List D) := match body (startI n ds) [] with
  | some (.nx _ fs) => if fs.map (·.1) = names then ok (fs.map (·.2)) else none
  | some (.ex e) => some (.error e)
  | none => none
theorem SR.consT {K : PySem.W.Frag} {A : Ad} {T : Nat → V} {B F0 F H : Hp} {σ : L2.St} {ρ : Ro} {n : Nat} (S : SR K A T B F0 F H σ ρ) : SR K A T B F0 F H (some (T n) :: σ) (.tk n :: ρ) := by
  refine ⟨S.fh, S.bh, S.f0, S.nw, by rw [List.length_cons, List.length_cons, S.len], fun i d h => ?_, fun i ds h => ?_, fun i j ds es hne hi hj => ?_, fun i m h => ?_⟩
  · cases i with
    | zero => cases h
    | succ i => exact S.fz i d h
  · cases i with
    | zero => cases h
    | succ i => exact S.ow i ds h
  · cases i with
    | zero => cases hi
    | succ i =>
      cases j with
      | zero => cases hj
      | succ j => exact S.sep i j ds es (fun q => hne (by rw [q])) hi hj
  · cases i with
    | zero => cases h; rfl
    | succ i => exact S.tk i m h
theorem SR.reT {K : PySem.W.Frag} {A : Ad} {T T' : Nat → V} {B F0 F H : Hp} {σ : L2.St} {ρ : Ro} (S : SR K A T B F0 F H σ ρ) (h : ∀ (i : Nat) n, ρ[i]? = some (.tk n) → T' n = T n) : SR K A T' B F0 F H σ ρ :=
  ⟨S.fh, S.bh, S.f0, S.nw, S.len, S.fz, S.ow, S.sep, fun i n e => by rw [h i n e]; exact S.tk i n e⟩
theorem startE_tk {n : Nat} {ds : List D} {i m : Nat} (h : (startE n ds)[i]? = some (.tk m)) : False := by
  unfold startE at h
  have := List.mem_of_getElem? h
  rcases List.mem_append.mp this with q | q
  · obtain ⟨d, _, e⟩ := List.mem_map.mp q
    cases e
  · cases (List.eq_of_mem_replicate q)
theorem start_cons {a : Str} {N : List Str} {v : V} {ws : List V} : L2.start (a :: N) (v :: ws) = some v :: L2.start N ws := by
  unfold L2.start
  rw [List.map_cons, List.cons_append, List.length_cons, List.length_cons, Nat.add_sub_add_right]
section
variable {P : Program} {w : World} {K : PySem.W.Frag} {mg : Str → Option Value} {base : Heap}
theorem spI_len {A : Ad} {C : Addr} {names : List Str} {na : Nat} {m : List D → EM (List D)} : ∀ vs H Q E, spI K A C names na m vs H Q E → vs.length = na + 1 := fun vs H Q E ⟨p, dx, F, ws, ds, r, e, _, _, _, rl, hl, _⟩ => by
  rw [e, List.length_cons, rl.length, hl]
theorem run_init {A : Ad} {C : Addr} {names : List Str} {na : Nat} {a : Str} {N : List Str} {vs : List V} {H : Hp} {Q : VK} {E : XK} {body : Ro → Fs → Option IFl} (h : spI K A C names na (runI names (a :: N).length body) vs H Q E) :
    ∃ y : Ix, y.A = A ∧ y.C = C ∧ y.F0 y.p = none ∧ tIF K y body { nx := fun _ H' => Q .non H', rt := Q } (L2.start (a :: N) vs) H ∧ y.W = fun cls d _ H' => E cls d H' := by
  obtain ⟨p, dx, F, ws, ds, r, rfl, hp, fp, ex, rl, hl, hm, w⟩ := h
  refine ⟨⟨A, H, F, fun cls d _ H' => E cls d H', C, p, dx, p⟩, rfl, rfl, fp, ?_, rfl⟩
  unfold runI at hm
  have S0 : SR K A (fun _ => .non) H F F H (L2.start N ws) (startE N.length ds) := SR.begin ex rl
  have S1 : SR K A (Ix.T ⟨A, H, F, fun cls d _ H' => E cls d H', C, p, dx, p⟩) H F F H (L2.start N ws) (startE N.length ds) := S0.reT fun i n e => (startE_tk e).elim
  have eH : upd H p (.ins C dx []) = H := by
    funext c
    by_cases q : c = p
    · subst q; rw [upd_same, hp]
    · rw [upd_ne q]
  have SI0 : SI K ⟨A, H, F, fun cls d _ H' => E cls d H', C, p, dx, p⟩ F H (L2.start (a :: N) (.ref p :: ws)) (startI (a :: N).length ds) [] := by
    refine ⟨⟨[], ⟨rfl, .nil⟩, hp, ?_⟩, fp⟩
    show SR K A (Ix.T ⟨A, H, F, fun cls d _ H' => E cls d H', C, p, dx, p⟩) (upd H p (.ins C dx [])) F F H _ _
    rw [eH, start_cons]
    exact S1.consT (n := 0)
  split at hm
  · rename_i ρ fs hf
    split at hm
    · rename_i hn
      cases (Option.some.inj hm)
      refine ⟨F, _, [], _, SI0, hf, fun F' H' σ' fvs G hp' rf => ?_⟩
      have hz : names.zip (fvs.map (·.2)) = fvs := by rw [← hn, ← rf.1]; exact zip_self fvs
      exact w F' H' (fvs.map (·.2)) G (by rw [hz]; exact hp') (by rw [← hn, ← rf.1, List.length_map, List.length_map]) rf.2
    · cases hm
  · rename_i e hf
    cases (Option.some.inj hm)
    exact ⟨F, _, [], _, SI0, hf, fun F' H' σ' dd G q => w F' H' dd G q⟩
  · cases hm
/-- an __init__ by its body -/
theorem fnI {nm qual : Str} {st : Stmt} {f C : Addr} {fd : FuncData} {a : Str} {N ps names : List Str} {k na : Nat} {A : Ad} {body : Ro → Fs → Option IFl} (F : Fun K nm qual st f fd) (S : FnScope (a :: N) ps (defScope st)) (hna : ps.length = na + 1)
    (hb : ∀ (cdv : Value) (A' : Around) (outer : List Env) (s : Shared) (H : Hp) (E : XK) (y : Ix), y.A = A → y.C = C → y.F0 y.p = none → y.W = (fun cls d _ H' => E cls d H') → Room k (A'.deeper (envOfC qual (defScope st) s.heap.objs.size f cdv)) →
      PSs (cxOf (L2N.CX P w) P w K mg base (a :: N) qual (defScope st) f cdv A' outer s H E) (defBody st) (tIF K y body)) :
    FnOk P w K mg base (L2N.CX P w) (k + 1) f fd ps (spI K A C names na (runI names (a :: N).length body)) :=
  fun_ok F S (fun vs H Q E h => by rw [spI_len vs H Q E h, hna]) fun cdv A' outer s H vs Q E hr h => by
    obtain ⟨y, h1, h2, h3, h4, h5⟩ := run_init h
    exact ⟨_, hb cdv A' outer s H E y h1 h2 h3 h5 hr, h4⟩
/-- .. of which defaults are told -/
theorem fnID {nm qual : Str} {params : Arguments} {bd : List Stmt} {scope : Scope} {dvs : List V} {kws : List (Str × V)} {f C : Addr} {fd : FuncData} {a : Str} {N ps names : List Str} {k na : Nat} {A : Ad} {body : Ro → Fs → Option IFl} (F : FunD K nm qual params bd scope dvs kws f fd) (S : FnScope (a :: N) ps scope) (hna : ps.length = na + 1)
    (hb : ∀ (cdv : Value) (A' : Around) (outer : List Env) (s : Shared) (H : Hp) (E : XK) (y : Ix), y.A = A → y.C = C → y.F0 y.p = none → y.W = (fun cls d _ H' => E cls d H') → Room k (A'.deeper (envOfC qual scope s.heap.objs.size f cdv)) →
      PSs (cxOf (L2N.CX P w) P w K mg base (a :: N) qual scope f cdv A' outer s H E) bd (tIF K y body)) :
    FnOk P w K mg base (L2N.CX P w) (k + 1) f fd ps (spI K A C names na (runI names (a :: N).length body)) :=
  F.ok S (fun vs H Q E h => by rw [spI_len vs H Q E h, hna]) fun cdv A' outer s H vs Q E hr h => by
    obtain ⟨y, h1, h2, h3, h4, h5⟩ := run_init h
    exact ⟨_, hb cdv A' outer s H E y h1 h2 h3 h5 hr, h4⟩
end

/-! ### an __init__ to which a list is lent -/
def startIL (n : Nat) (ds : List D) : Ro := .tk 0 :: .tk 2 :: startE (n - 2) ds
def runIL (names : List Str) (n : Nat) (body : List D → Ro → Fs → Option IFl) (ls ds : List D) : EM (List D) := match body ls (startIL n ds) [] with
  | some (.nx _ fs) => if fs.map (·.1) = names then ok (fs.map (·.2)) else none
  | some (.ex e) => some (.error e)
  | none => none
/-- what it promises: the first argument is a list that it only reads -/
def spIL (K : PySem.W.Frag) (A : Ad) (C : Addr) (names : List Str) (na : Nat) (m : List D → List D → EM (List D)) : Sp := fun vs H Q E => ∃ (p q dx : Addr) (F : Hp) (xs ws : List V) (ls ds : List D) (r : Except Xn (List D)), vs = .ref p :: .ref q :: ws ∧ H p = some (.ins C dx []) ∧ F p = none ∧ H q = some (.lst xs) ∧ RepL K A F xs ls ∧ Ex F H ∧ RepL K A F ws ds ∧ ds.length = na ∧ m ls ds = some r ∧
  (match r with
    | .ok fs => ∀ F' H' fvs, GrowP p F H F' H' → H' p = some (.ins C dx (names.zip fvs)) → fvs.length = names.length → RepL K A F' fvs fs → Q .non H'
    | .error e => ∀ F' H' dd, GrowP p F H F' H' → XR H' e dd → E (.ref (A.xc e.cl)) dd H')
/-- the lent list -/
structure Lent (K : PySem.W.Frag) (y : Ix) (ls : List D) : Prop where
  ex : ∃ xs, y.B y.q = some (.lst xs) ∧ RepL K y.A y.F0 xs ls
  ne : y.q ≠ y.p
section
variable {P : Program} {w : World} {K : PySem.W.Frag} {mg : Str → Option Value} {base : Heap}
theorem spIL_len {A : Ad} {C : Addr} {names : List Str} {na : Nat} {m : List D → List D → EM (List D)} : ∀ vs H Q E, spIL K A C names na m vs H Q E → vs.length = na + 2 := fun vs H Q E ⟨p, q, dx, F, xs, ws, ls, ds, r, e, _, _, _, _, _, rl, hl, _⟩ => by
  rw [e, List.length_cons, List.length_cons, rl.length, hl]
theorem run_initL {A : Ad} {C : Addr} {names : List Str} {na : Nat} {a b : Str} {N : List Str} {vs : List V} {H : Hp} {Q : VK} {E : XK} {body : List D → Ro → Fs → Option IFl} (h : spIL K A C names na (runIL names (a :: b :: N).length body) vs H Q E) :
    ∃ (y : Ix) (ls : List D), y.A = A ∧ y.C = C ∧ y.F0 y.p = none ∧ Lent K y ls ∧ tIF K y (body ls) { nx := fun _ H' => Q .non H', rt := Q } (L2.start (a :: b :: N) vs) H ∧ y.W = fun cls d _ H' => E cls d H' := by
  obtain ⟨p, q, dx, F, xs, ws, ls, ds, r, rfl, hp, fp, hq, hx, ex, rl, hl, hm, w⟩ := h
  refine ⟨⟨A, H, F, fun cls d _ H' => E cls d H', C, p, dx, q⟩, ls, rfl, rfl, fp, ⟨⟨xs, hq, hx⟩, fun z => by rw [show q = p from z, hp] at hq; cases hq⟩, ?_, rfl⟩
  unfold runIL at hm
  have S0 : SR K A (fun _ => .non) H F F H (L2.start N ws) (startE N.length ds) := SR.begin ex rl
  have S1 : SR K A (Ix.T ⟨A, H, F, fun cls d _ H' => E cls d H', C, p, dx, q⟩) H F F H (L2.start N ws) (startE N.length ds) := S0.reT fun i n e => (startE_tk e).elim
  have eH : upd H p (.ins C dx []) = H := by
    funext c
    by_cases q : c = p
    · subst q; rw [upd_same, hp]
    · rw [upd_ne q]
  have SI0 : SI K ⟨A, H, F, fun cls d _ H' => E cls d H', C, p, dx, q⟩ F H (L2.start (a :: b :: N) (.ref p :: .ref q :: ws)) (startIL (a :: b :: N).length ds) [] := by
    refine ⟨⟨[], ⟨rfl, .nil⟩, hp, ?_⟩, fp⟩
    show SR K A (Ix.T ⟨A, H, F, fun cls d _ H' => E cls d H', C, p, dx, q⟩) (upd H p (.ins C dx [])) F F H _ _
    rw [eH, start_cons, start_cons]
    exact (S1.consT (n := 2)).consT (n := 0)
  split at hm
  · rename_i ρ fs hf
    split at hm
    · rename_i hn
      cases (Option.some.inj hm)
      refine ⟨F, _, [], _, SI0, hf, fun F' H' σ' fvs G hp' rf => ?_⟩
      have hz : names.zip (fvs.map (·.2)) = fvs := by rw [← hn, ← rf.1]; exact zip_self fvs
      exact w F' H' (fvs.map (·.2)) G (by rw [hz]; exact hp') (by rw [← hn, ← rf.1, List.length_map, List.length_map]) rf.2
    · cases hm
  · rename_i e hf
    cases (Option.some.inj hm)
    exact ⟨F, _, [], _, SI0, hf, fun F' H' σ' dd G q => w F' H' dd G q⟩
  · cases hm
theorem fnILD {nm qual : Str} {params : Arguments} {bd : List Stmt} {scope : Scope} {dvs : List V} {kws : List (Str × V)} {f C : Addr} {fd : FuncData} {a b : Str} {N ps names : List Str} {k na : Nat} {A : Ad} {body : List D → Ro → Fs → Option IFl} (F : FunD K nm qual params bd scope dvs kws f fd) (S : FnScope (a :: b :: N) ps scope) (hna : ps.length = na + 2)
    (hb : ∀ (cdv : Value) (A' : Around) (outer : List Env) (s : Shared) (H : Hp) (E : XK) (y : Ix) (ls : List D), y.A = A → y.C = C → y.F0 y.p = none → Lent K y ls → y.W = (fun cls d _ H' => E cls d H') → Room k (A'.deeper (envOfC qual scope s.heap.objs.size f cdv)) →
      PSs (cxOf (L2N.CX P w) P w K mg base (a :: b :: N) qual scope f cdv A' outer s H E) bd (tIF K y (body ls))) :
    FnOk P w K mg base (L2N.CX P w) (k + 1) f fd ps (spIL K A C names na (runIL names (a :: b :: N).length body)) :=
  F.ok S (fun vs H Q E h => by rw [spIL_len vs H Q E h, hna]) fun cdv A' outer s H vs Q E hr h => by
    obtain ⟨y, ls, h1, h2, h3, h4, h5, h6⟩ := run_initL h
    exact ⟨_, hb cdv A' outer s H E y ls h1 h2 h3 h4 h6 hr, h5⟩
end
/-- a lent list, read -/
def eLn (i : Nat) (ls : List D) : Ro → EM D := fun ρ => match ρ[i]? with
  | some (.tk 2) => ok (.lst ls)
  | _ => none
def iLn (i : Nat) (ls : List D) : Ro → EM (List D) := fun ρ => match ρ[i]? with
  | some (.tk 2) => ok ls
  | _ => none
section
variable {X : Cx} {x : Fx} {a : Expr} {i : Nat} {ls : List D}
structure LentX (K : PySem.W.Frag) (x : Fx) (ls : List D) : Prop where
  ex : ∃ l xs, x.T 2 = .ref l ∧ x.B l = some (.lst xs) ∧ RepL K x.A x.F0 xs ls
theorem Lent.fx {K : PySem.W.Frag} {y : Ix} {B' : Hp} (L : Lent K y ls) (h : BOk y B') : LentX K (y.fx B') ls := by
  obtain ⟨xs, h1, h2⟩ := L.ex
  exact ⟨y.q, xs, rfl, h _ _ L.ne h1, h2⟩
theorem Lent.fxN {K : PySem.W.Frag} {y : Ix} {l : Addr} {ks : List (Str × Int)} (L : Lent K y ls) (h : y.B l = none) : LentX K (y.fxN l ks) ls := by
  obtain ⟨xs, h1, h2⟩ := L.ex
  refine ⟨y.q, xs, rfl, ?_, h2⟩
  show upd _ l _ y.q = _
  rw [upd_ne (ne_of_none h1 h), upd_ne L.ne]
  exact h1
theorem pk_ln (L : LentX X.K x ls) (h : PE X a (tVar i)) : PE X a (tK X.K x .bw (eLn i ls)) := pe_wk h fun σ H Q ⟨F, ρ, r, S, e, w⟩ => by
  unfold eLn at e
  split at e
  · rename_i hi
    cases (Option.some.inj e)
    obtain ⟨l, xs, h1, h2, h3⟩ := L.ex
    exact ⟨.ref l, by rw [S.tk i 2 hi, h1], w F H _ (.refl S.fh) (.inr ⟨l, xs, ls, rfl, rfl, S.bh _ _ h2, h3.mono S.f0⟩)⟩
  · cases e
end
section
variable {X : Cx} {x : Fx} {a : Expr} {i : Nat} {ls : List D}
theorem pid_ln {tg : Expr} (L : LentX X.K x ls) (h : PE X a (tVar i)) : PI X tg a (tI X.K x (iLn i ls)) := pi_wk (pi_list h) fun σ H R ⟨F, ρ, r, S, e, w⟩ => by
  unfold iLn at e
  split at e
  · rename_i hi
    cases (Option.some.inj e)
    obtain ⟨l, xs, h1, h2, h3⟩ := L.ex
    have r1 := h3.mono S.f0
    refine ⟨.ref l, by rw [S.tk i 2 hi, h1], l, rfl, ⟨_, .of (S.bh _ _ h2)⟩, w F H _ (fun c => if c = l then some (.lst xs) else none) (.refl S.fh) (fun c o hc => ?_) (fun c o hc => ?_) ⟨fun j d H2 e1 e2 hd => ?_, fun j H2 e1 e2 hj => ?_, fun j d F2 H2 v H3 e1 e2 e3 hd hy => ?_⟩⟩
    · dsimp only at hc
      by_cases q : c = l
      · subst q; rw [if_pos rfl] at hc; rw [← hc]; exact h2
      · rw [if_neg q] at hc; cases hc
    · dsimp only at hc
      by_cases q : c = l
      · rw [if_pos q] at hc; cases hc; exact ⟨xs, rfl⟩
      · rw [if_neg q] at hc; cases hc
    · obtain ⟨v, g1, _⟩ := r1.get hd
      exact ⟨xs, v, .of (e2 l _ (if_pos rfl)), g1⟩
    · exact ⟨xs, .of (e2 l _ (if_pos rfl)), by rw [r1.length]; exact hj⟩
    · obtain ⟨e, hy⟩ := hy
      subst e
      obtain ⟨u, g1, g2⟩ := r1.get hd
      have := hy xs (.of (e3 l _ (if_pos rfl)))
      rw [g1] at this
      cases (Option.some.inj this)
      exact ⟨F2, .refl e2, g2.mono e1⟩
  · cases e
end
/-! ### Pot.__init__(self, ..) -/
section
variable {X : Cx} {CX : CXT} {k : Nat} {f C : Addr} {fd : FuncData} {ps : List Str} {sp : Sp} {E : L2.St → XK} {n m : Str} {p pos apos : Pos} {e o : Expr} {es : List Expr} {t : TA} {mc : Value}
theorem pe_clsG {pl : Sem Bool} (he : PE X o (fun _ H Q => Q (.ref C) H)) (r : ClX.CRead X.K C mc) (c : ClX.CVal X.K C mc m (.ref f) (.ref f)) (hk : PySem.W.keepIn X.K (.ref f) = true) (F : FnOk X.prog X.w X.K X.mg X.base CX k f fd ps sp) (hr : Room k X.A) (hb : Binds X.K fd ps []) (hx : ∀ σ, PassesAt CX X σ (E σ)) (ha : PA X (e :: es) t)
    (hst : starEach (e :: es) X.env = (false, eval e X.env) :: starEach es X.env := by rfl) (hpl : (backTo pos (starEach es X.env)).any (·.1) = false := by rfl)
    (ht : eval (.Call (.Attribute o m apos) (e :: es) [] pos) X.env = (do
      let ov ← eval o X.env
      standAt apos.atName
      let (f, first) ← holding [ov] (getMethod ov m pl)
      callWith pos f first (backTo pos (starEach (e :: es) X.env)) (backToKw pos (keywordEach [] X.env))) := by rfl) :
    PE X (.Call (.Attribute o m apos) (e :: es) [] pos) (tCallG sp [] E t) := by
  refine ⟨fun pins s σ H Q I h => ?_⟩
  refine PySem.W.methodCall_KW (pl := pl) (thn (he.run pins s σ H (fun x H1 => x = .ref C ∧ H1 = H) I ⟨rfl, rfl⟩) fun u s1 ⟨x, H1, I1, rx, ex, eH⟩ => ?_) ht
  subst ex eH
  obtain rfl : u = Value.ref C := rx
  refine PySem.W.method_cls I1.kIn r.ga (ClX.getcval_ok I1 r c fun s2 I2 => ?_)
  refine PySem.W.callWith_K (first := []) (h₀ := X.base) I2.ok.mod.kin hk (thn (ha.run pos pins s2 σ H1 _ I2 h) fun us s3 ⟨vs, H2, I3, rv, q2⟩ => ⟨I3.kIn, ?_⟩) hst hpl
  exact run_fnG F hr hb .nil (hx σ) I3 rv q2
end

/-! ### the dict of names -/
def dNinO (d e : D) : EM D := match d, e with
  | .str s, .ord ks => ok (.bl (!hasN ks s))
  | _, _ => none
def dGetO (d e : D) : EM D := match d, e with
  | .ord ks, .str s => match ks.find? (fun k => decide (k.1 = s)) with
    | some k => ok (.int k.2)
    | none => none
  | _, _ => none
theorem ord_get {ks : List (Str × Int)} {s : Str} {k : Str × Int} (h : ks.find? (fun k => decide (k.1 = s)) = some k) : valV (ordK ks) (Sum.inr s) = some (.int k.2) := by
  unfold valV ordK
  induction ks with
  | nil => cases h
  | cons a ks ih =>
    rw [List.map_cons, List.find?_cons]
    rw [List.find?_cons] at h
    by_cases q : a.1 = s
    · rw [decide_eq_true q] at h
      cases h
      rw [decide_eq_true (by rw [q])]
      rfl
    · rw [decide_eq_false q] at h
      rw [decide_eq_false (fun z => q (Sum.inr.inj z))]
      exact ih h
section
variable {X : Cx} {x : Fx} {f g : Ro → EM D} {a b : Expr} {pos : Pos}
def rNinD : R2 := fun y v H Q => ∃ a o, v = .ref a ∧ DGet H a y o ∧ Q (.bl (!o.isSome)) H
theorem op_ninD (hu : X.A.units + 1 < PySem.cLine) : OpR X (compareOp .NotIn) rNinD := by
  intro pins s σ H y v u w Q I ry rv ⟨a, o, ev, g, q⟩
  subst ev
  obtain rfl : w = Value.ref a := rv
  exact d_notIn hu I g ry fun s' I' => ⟨.bl (!o.isSome), H, I', rfl, q⟩
theorem op2_ninO {k : Kd} (hk : k ≠ .ow) : Op2 X.K x k rNinD dNinO := fun F H σ v u d e q Q ex rv ru hq w => by
  unfold dNinO at hq
  split at hq
  · rename_i s ks
    cases (Option.some.inj hq)
    cases rk_str rv
    cases (RK.rep ru fun _ z => by cases z) with
    | ord h =>
      refine ⟨_, _, rfl, DGet.k (k := Sum.inr s) (ex _ _ h), ?_⟩
      rw [ord_val]
      exact w F H _ (.refl ex) (by
        cases k with
        | bw => exact .inl (.bl _)
        | fz => exact .bl _
        | ow => exact absurd rfl hk)
  · cases hq
theorem nox_ninO : NoX dNinO := fun d e y h => by
  unfold dNinO at h
  split at h <;> cases h
theorem pk_ninO (hu : X.A.units + 65 < PySem.cLine) (hm : behindInMarks .NotIn b = false) (ha : PE X a (tK X.K x .bw f)) (hb : PE X b (tK X.K x .bw g)) : PE X (.Compare a [.NotIn] [b] pos) (tK X.K x .fz (eOp dNinO f g)) := pk_cmp (op_ninD (by omega)) (op2_ninO (by decide)) nox_ninO hm ha hb
theorem pt_ninO (hu : X.A.units + 65 < PySem.cLine) (hm : behindInMarks .NotIn b = false) (ha : PE X a (tK X.K x .bw f)) (hb : PE X b (tK X.K x .bw g)) : PT X (.Compare a [.NotIn] [b] pos) (tT X.K x (bT (eOp dNinO f g))) := pt_c (op_ninD (by omega)) (op2_ninO (by decide)) nox_ninO hm ha hb
theorem pk_getO (hu : X.A.units + 65 < PySem.cLine) (hs : NoSl b) (ha : PE X a (tK X.K x .bw f)) (hb : PE X b (tK X.K x .bw g)) : PE X (.Subscript a b pos) (tK X.K x .fz (eOp dGetO f g)) := pe_wk (pe_dget (by omega) ha hb hs) fun σ H Q ⟨F, ρ, r, S, e, w⟩ =>
  tk_step S e w.x fun d F1 H1 v1 G1 S1 r1 e1 => tk_step S1 e1 (fun y hy => Wx.grow (K := X.K) G1 (w.x y hy)) fun d2 F2 H2 v2 G2 S2 r2 e2 => by
    unfold dGetO at e2
    split at e2
    · rename_i ks s
      split at e2
      · rename_i k hk
        cases (Option.some.inj e2)
        cases rk_str r2
        cases (RK.rep r1 fun _ z => by cases z) with
        | ord h => exact ⟨_, _, rfl, .inl ⟨_, Sum.inr s, .inl (S2.fh _ _ (G2.f _ _ h)), rfl, (ord_get hk).symm⟩, w F2 H2 _ (G1.trans G2) (.int _)⟩
      · cases e2
    · cases e2
end
end Tw
/-! TwM: tables of built-in types, small helps for the printed texts. -/
namespace Tw
open PySem PySem.Spec PyProof.Rows L2
theorem takes0 {X : Cx} {x : Fx} : L2N.Takes X x.nox.W := fun u s' ⟨_, _, _, _, _, _, _, _, _, _, _, _, _, _, _, _, w⟩ => w.elim
def tab_int : Tag → Option Bool
  | .int => some true
  | .bl => some true
  | .obj _ => none
  | _ => some false
def tab_bool : Tag → Option Bool
  | .bl => some true
  | .obj _ => none
  | _ => some false
def tab_str : Tag → Option Bool
  | .str => some true
  | .obj _ => none
  | _ => some false
def tab_tuple : Tag → Option Bool
  | .tup => some true
  | .obj _ => none
  | _ => some false
def tab_list : Tag → Option Bool
  | .lst => some true
  | .obj _ => none
  | _ => some false
section
variable {K : PySem.W.Frag} {A : Ad}
theorem is_int : IsTab K A (.type "int") tab_int := fun t b h _ => by
  cases t <;> first | (cases h; done) | (cases (Option.some.inj h); kernel_rfl)
theorem is_bool : IsTab K A (.type "bool") tab_bool := fun t b h _ => by
  cases t <;> first | (cases h; done) | (cases (Option.some.inj h); kernel_rfl)
theorem is_str : IsTab K A (.type "str") tab_str := fun t b h _ => by
  cases t <;> first | (cases h; done) | (cases (Option.some.inj h); kernel_rfl)
theorem is_tuple : IsTab K A (.type "tuple") tab_tuple := fun t b h _ => by
  cases t <;> first | (cases h; done) | (cases (Option.some.inj h); kernel_rfl)
theorem is_list : IsTab K A (.type "list") tab_list := fun t b h _ => by
  cases t <;> first | (cases h; done) | (cases (Option.some.inj h); kernel_rfl)
end
theorem hu65 {A : Around} {k : Nat} (r : Room k A) : A.units + 65 < PySem.cLine := by have := r.un; omega
theorem hu1 {A : Around} {k : Nat} (r : Room k A) : A.units + 1 < PySem.cLine := by have := r.un; omega
theorem op2_mulI {X : Cx} {x : Fx} : Op2 X.K x .fz (rI CMul fun i j => .int (i * j)) dMul := op2_I (fun i j h => by
  unfold cMul at h
  simp only [Bool.or_eq_true, Bool.and_eq_true, decide_eq_true_eq] at h
  exact h)
/-- C.__init__(self, ..), the super class told by its name -/
structure Sup (P : Program) (w : World) (K : PySem.W.Frag) (mg : Str → Option Value) (base : Heap) (A : Ad) (k : Nat) (nm : Str) (C : Addr) (c0 : Cl) (na : Nat) (mi : List D → EM (List D)) : Prop where
  ex : ∃ f fd ps k' mc, k' ≤ k ∧ mg nm = some (.ref (A.cl c0)) ∧ ClX.CRead K (A.cl c0) mc ∧ ClX.CVal K (A.cl c0) mc "__init__" (.ref f) (.ref f) ∧ PySem.W.keepIn K (.ref f) = true ∧ FnOk P w K mg base (L2N.CX P w) k' f fd ps (spI K A C c0.names na mi) ∧ Binds K fd ps []
theorem pis_sup {X : Cx} {y : Ix} {kk na : Nat} {n : Str} {c0 : Cl} {mi : List D → EM (List D)} {fa : Ro → EM (List D)} {e0 : Expr} {es : List Expr} {p1 apos pos pos2 : Pos} {pl : Sem Bool} (h0 : y.F0 y.p = none) (Sp : Sup X.prog X.w X.K X.mg X.base y.A kk n y.C c0 na mi) (tk : L2N.Takes X y.W) (hr : Room kk X.A) (hself : PE X e0 (tVar 0)) (ha : ∀ B', BOk y B' → PA X es (tA X.K (y.fx B') .fz fa))
    (hg : Gl X n := by rfl) (hdb : (n == ("__debug__" : Str)) = false := by decide)
    (hst : starEach (e0 :: es) X.env = (false, eval e0 X.env) :: starEach es X.env := by rfl) (hpl : (backTo pos (starEach es X.env)).any (·.1) = false := by rfl)
    (ht : eval (.Call (.Attribute (.Name n p1) "__init__" apos) (e0 :: es) [] pos) X.env = (do
      let ov ← eval (.Name n p1) X.env
      standAt apos.atName
      let (f, first) ← holding [ov] (getMethod ov "__init__" pl)
      callWith pos f first (backTo pos (starEach (e0 :: es) X.env)) (backToKw pos (keywordEach [] X.env))) := by rfl) :
    PS X (.Expr (.Call (.Attribute (.Name n p1) "__init__" apos) (e0 :: es) [] pos) pos2) (tIS X.K y (iCal c0.names na mi fa)) := by
  obtain ⟨f, fd, ps, k', mc, hk, hm, r, c, hkp, Fn, hb⟩ := Sp.ex
  exact pis_cal h0 (fun t h => ps_expr (pe_clsG (pl := pl) (pe_glob hg hm rfl hdb) r c hkp Fn (hr.mono hk) hb (E := WE y.W) (fun σ => L2N.passAt tk σ) (pa_cons hself h hst) hst hpl ht)) ha
/-- a class that is called by its name with a list of one's own, which it only reads -/
structure MakL (P : Program) (w : World) (K : PySem.W.Frag) (mg : Str → Option Value) (base : Heap) (A : Ad) (k : Nat) (nm : Str) (na : Nat) (c : Cl) (mi : List D → List D → EM (List D)) (dds : List D) : Prop where
  ex : ∃ f fd ps ds dvs k', k' + 1 ≤ k ∧ A.has c = true ∧ Mk K (A.cl c) f ∧ FnOk P w K mg base (L2N.CX P w) k' f fd ps (spIL K A (A.cl c) c.names na mi) ∧ mg nm = some (.ref (A.cl c)) ∧ Binds K fd ps ds ∧ Vals dvs ds ∧ ∀ F, RepL K A F dvs dds
def eMakeL (i na : Nat) (mi : List D → List D → EM (List D)) (c : Cl) (dds : List D) (fs : Ro → EM (List D)) : Ro → EM D := fun ρ => match ρ[i]? with
  | some (.ow ls) => bnd (fs ρ) fun ds => dDef na dds (fun cs => dMake (mi ls) c cs) ds
  | _ => none
theorem pk_mkL {X : Cx} {x : Fx} {n : Str} {kk na i : Nat} {c : Cl} {mi : List D → List D → EM (List D)} {dds : List D} {e : Expr} {es : List Expr} {p pos : Pos} {fs : Ro → EM (List D)} (C : MakL X.prog X.w X.K X.mg X.base x.A kk n na c mi dds) (tk : L2N.Takes X x.W) (hr : Room kk X.A) (h0 : PE X e (tVar i)) (ha : PA X es (tA X.K x .fz fs)) (hg : Gl X n := by rfl) (hdb : (n == ("__debug__" : Str)) = false := by decide)
    (he : starEach (e :: es) X.env = (false, eval e X.env) :: starEach es X.env := by rfl) (hpl : (backTo pos (starEach es X.env)).any (·.1) = false := by rfl) : PE X (.Call (.Name n p) (e :: es) [] pos) (tK X.K x .fz (eMakeL i na mi c dds fs)) := by
  obtain ⟨f, fd, ps, dsv, dvs, k', hk, hc, hM, Fn, hm, hb, hd, hdd⟩ := C.ex
  refine pe_wk (pe_makeG hM Fn (hr.mono hk) hg hm hb hd (E := WE x.W) (fun σ => L2N.passAt tk σ) (pa_cons h0 ha he) hdb he hpl) fun σ H Q ⟨F, ρ, r, S, e, w⟩ => ?_
  unfold eMakeL at e
  split at e
  rotate_left
  · cases e
  rename_i ls hi
  obtain ⟨l, xs, o1, o2, o3, o4, o5⟩ := S.ow i ls hi
  refine ⟨.ref l, o1, ta_step S e w.x fun cs F1 H1 vs G1 S1 r1 e1 => ?_⟩
  obtain ⟨hl, e2⟩ := dDef_some e1
  intro x' dx hx hdx hne
  unfold dMake at e2
  have fresh : F1 x' = none := S1.fh.free hx
  have old : ∀ a o, H1 a = some o → a ≠ x' ∧ upd (upd H1 dx (.own x')) x' (.ins (x.A.cl c) dx []) a = some o := fun a o ha => ⟨ne_of_none ha hx, by
    rw [upd_ne (ne_of_none ha hx), upd_ne (ne_of_none ha hdx)]
    exact ha⟩
  have ex : Ex F1 (upd (upd H1 dx (.own x')) x' (.ins (x.A.cl c) dx [])) := fun a o ha => (old a o (S1.fh a o ha)).2
  have hl1 := G1.h l _ o4
  cases em : mi ls (cs ++ dds) with
  | none => rw [em] at e2; cases e2
  | some q =>
    rw [em] at e2
    refine ⟨x', l, dx, F1, xs, _, ls, cs ++ dds, q, rfl, upd_same, fresh, (old l _ hl1).2, o5.mono G1.f, ex, r1.repL.app (hdd _), hl, em, ?_⟩
    cases q with
    | error y =>
      cases (Option.some.inj e2)
      exact fun F' H' dd G r => (w : Wx X.K x F H σ y).grow (K := X.K) G1 F' H' dd ⟨G.f, fun a o ha => G.h a o (old a o ha).1 (old a o ha).2, G.i, fun a o ha => G.n a o (old a o ha).1 (old a o ha).2⟩ r
    | ok fs' =>
      cases (Option.some.inj e2)
      intro F' H' fvs G hp hlen rf
      have exF : Ex F' (upd F' x' (.ins (x.A.cl c) dx (c.names.zip fvs))) := fun a o ha => by
        by_cases q : a = x'
        · subst q
          have := G.i a o ha
          rw [hp] at this
          rw [upd_same]
          exact this
        · rw [upd_ne q]; exact ha
      refine ⟨rfl, (w.grow G1) (upd F' x' (.ins (x.A.cl c) dx (c.names.zip fvs))) H' (.ref x') ⟨G.f.trans exF, fun a o ha => G.h a o (old a o ha).1 (old a o ha).2, fun a o ha => ?_, fun a o ha => ?_⟩ (Rep.obj hc upd_same hlen (rf.mono exF))⟩
      · by_cases q : a = x'
        · subst q; rw [upd_same] at ha; rw [← ha]; exact hp
        · rw [upd_ne q] at ha; exact G.i a o ha
      · rw [upd_ne (old a o ha).1]
        exact G.n a o (old a o ha).1 (old a o ha).2
end Tw
/-! TwN: a caught refusal: try .. except X as n, defs that take it, isinstance of it. -/
namespace Tw
open PySem PySem.Spec PyProof.Rows L2
open L2H (RoomH Hot1 PinOk cxH inv_startH)
/-- a stands for the refusal y that is handled -/
structure HotE (A : Ad) (X : Cx) (a : Addr) (y : Xn) (d : Option Addr) : Prop where
  ex : ∃ oe : Obj, (a, oe) ∈ X.pn ∧ L2.Zc (.ref (A.xc y.cl)) d oe ∧ ∃ vs, oe.data = .fields vs
/-- a def of one argument, the handled refusal -/
structure FnE (P : Program) (w : World) (K : PySem.W.Frag) (mg : Str → Option Value) (base : Heap) (A : Ad) (k : Nat) (f : Addr) (fd : FuncData) (ps : List Str) (m : Xn → Option Out) : Prop where
  len : ps.length = 1
  run : ∀ (R : Around) (outer : List Env) (s : Shared) (H F : Hp) (args : Args) (Q : VK) (E : XK) (p : Addr × Obj) (y : Xn) (d : Option Addr) (o : Out), RoomH k R → PinOk outer H s p → L2.Zc (.ref (A.xc y.cl)) d p.2 → (∃ vs, p.2.data = .fields vs) →
    Env0 P w K mg base R outer s H → BindsTo s fd args (ps.zip [.ref p.1]) → Ex F H → XR H y d → m y = some o → WdO K A o F H Q E → codeAny (model P w) R (.call (.ref f) args) (CR (L2N.CX P w) outer P w H s Q E) s
def fxE (A : Ad) (a : Addr) (H F : Hp) (E : XK) : Fx := ⟨A, fun _ => .ref a, H, F, fun cls d _ H' => E cls d H'⟩
def runE (n : Nat) (body : Xn → Ro → Option Fl) (y : Xn) : Option Out := outOf (body y (.tk 0 :: startE (n - 1) []))
theorem SR.out1 {K : PySem.W.Frag} {A : Ad} {T : Nat → V} {F H : Hp} {N : List Str} {x0 : Str} {a : Addr} (e : Ex F H) (hT : T 0 = .ref a) : SR K A T H F F H (L2.start (x0 :: N) [.ref a]) (.tk 0 :: startE N.length []) := by
  have S0 : SR K A (fun _ => .non) H F F H (L2.start N []) (startE N.length []) := SR.begin e .nil
  have S1 : SR K A T H F F H (L2.start N []) (startE N.length []) := S0.reT fun i n q => (startE_tk q).elim
  have S2 := S1.consT (n := 0)
  rw [hT] at S2
  rw [start_cons]
  exact S2
theorem run_bodyE {K : PySem.W.Frag} {A : Ad} {x0 : Str} {N : List Str} {a : Addr} {H F : Hp} {Q : VK} {E : XK} {o : Out} {y : Xn} {body : Xn → Ro → Option Fl} (e : Ex F H) (hm : runE (x0 :: N).length body y = some o) (w : WdO K A o F H Q E) :
    tS K (fxE A a H F E) (body y) { nx := fun _ H' => Q .non H', rt := Q } (L2.start (x0 :: N) [.ref a]) H := by
  unfold runE outOf at hm
  have S0 : SR K A (fxE A a H F E).T H F F H (L2.start (x0 :: N) [.ref a]) (.tk 0 :: startE N.length []) := SR.out1 e rfl
  refine ⟨F, .tk 0 :: startE N.length [], ?_⟩
  have eN : (x0 :: N).length - 1 = N.length := rfl
  rw [eN] at hm
  split at hm
  · rename_i ρ hf
    cases (Option.some.inj hm)
    exact ⟨_, S0, hf, fun F' H' σ' G S => w F' H' .non S.out .non⟩
  · rename_i d hf
    cases (Option.some.inj hm)
    exact ⟨_, S0, hf, w⟩
  · rename_i d hf
    cases (Option.some.inj hm)
    exact ⟨_, S0, hf, w⟩
  · rename_i z ρ hf
    cases (Option.some.inj hm)
    exact ⟨_, S0, hf, fun F' H' σ' G S dd q => w F' H' dd S.out q⟩
  · cases hm
section
variable {P : Program} {w : World} {K : PySem.W.Frag} {mg : Str → Option Value} {base : Heap}
theorem fnE {nm qual x0 : Str} {st : Stmt} {f : Addr} {fd : FuncData} {N ps : List Str} {k : Nat} {A : Ad} {body : Xn → Ro → Option Fl} (Fu : Fun K nm qual st f fd) (S : FnScope (x0 :: N) ps (defScope st)) (hps : ps.length = 1)
    (hb : ∀ (cdv : Value) (R : Around) (outer : List Env) (s : Shared) (H F0 : Hp) (E : XK) (p : Addr × Obj) (y : Xn) (d : Option Addr), RoomH k (R.deeper (envOfC qual (defScope st) s.heap.objs.size f cdv)) → XR H y d →
      HotE A (cxH (L2N.CX P w) P w K mg base (x0 :: N) qual (defScope st) f cdv R outer s H E p) p.1 y d →
      PSs (cxH (L2N.CX P w) P w K mg base (x0 :: N) qual (defScope st) f cdv R outer s H E p) (defBody st) (tS K (fxE A p.1 H F0 E) (body y))) :
    FnE P w K mg base A (k + 1) f fd ps (runE (x0 :: N).length body) := by
  obtain ⟨oc, od, kV, doc, pm, an, cdv, ct, osl, rfl, hlk, hcd⟩ := Fu.ex
  refine ⟨hps, fun R outer s H F0 args Q E p y d o room pin zn flds env binds ex xr hm wd => ?_⟩
  have kin : K.In s.heap := env.mod.kin.keeps fun b ob q => (env.bs b ob q).1
  have nolim : s.heap.NoLimit := env.mod.nolimit.keeps fun b ob q => (env.bs b ob q).1
  have kinds : ∀ z ∈ ps.zip [Value.ref p.1], (defScope st).names.lookup z.1 = some .local ∨
      ((defScope st).names.lookup z.1 = some .cell ∧ ((cellsFrom (s.heap.objs.size + 1) (defScope st).names []).lookup z.1).isSome = true) := by
    rintro ⟨n, v⟩ hz
    exact (S.par n (List.of_mem_zip hz).1).imp id fun q => ⟨q, PySem.W.cellsFrom_some _ _ _ (.inl q)⟩
  refine codeAny_call_function room.depth (kin _ _ hlk) rfl S.co S.gen rfl (PySem.W.codeRec_of kin hcd) (binds _ _ _ _ (wpAny_newFunctionEnv_cells S.kind kinds ?_))
  rintro env1 rfl s1 made
  have body1 := hb cdv R outer s H F0 E p y d (room.deeper _) xr ⟨p.2, List.mem_cons_self, zn, flds⟩
  have inv1 : Inv (cxH (L2N.CX P w) P w K mg base (x0 :: N) qual (defScope st) f cdv R outer s H E p) [] (L2.start (x0 :: N) [.ref p.1]) H s1 := inv_startH S pin env (by rw [hps]; rfl) (.cons rfl .nil) made
  refine ⟨nolim.keeps made.toInCall.keep, codeAny_func (wpAny_mono (body1.run [] s1 _ H _ inv1 (run_bodyE ex hm wd)) ?_ fun _ _ z => z)⟩
  intro fl s2 hs
  cases fl with
  | next => obtain ⟨_, H2, J, q⟩ := hs; exact ⟨.non, H2, J.os, J.bare, J.base, J.hok, rfl, q⟩
  | ret u => obtain ⟨v, _, H2, J, rv, q⟩ := hs; exact ⟨v, H2, J.os, J.bare, J.base, J.hok, rv, q⟩
  | brk => obtain ⟨_, _, _, q⟩ := hs; exact q.elim
  | cont => obtain ⟨_, _, _, q⟩ := hs; exact q.elim
end
/-- a def of the refusal, called by its name -/
structure CalE (P : Program) (w : World) (K : PySem.W.Frag) (mg : Str → Option Value) (base : Heap) (A : Ad) (k : Nat) (nm : Str) (m : Xn → Option Out) : Prop where
  ex : ∃ f fd ps k', k' ≤ k ∧ FnE P w K mg base A k' f fd ps m ∧ mg nm = some (.ref f) ∧ PySem.W.keepIn K (.ref f) = true ∧ Binds K fd ps []
def eTk (i : Nat) (r : EM D) : Ro → EM D := fun ρ => if isTk ρ[i]? = true then r else none
section
variable {X : Cx} {x : Fx} {a : Addr} {y : Xn} {d : Option Addr} {e : Expr} {n : Str} {p pos : Pos} {i kk : Nat} {m : Xn → Option Out}
theorem pk_callE (C : CalE X.prog X.w X.K X.mg X.base x.A kk n m) (hot : HotE x.A X a y d) (hT : ∀ j, x.T j = .ref a) (hB : XR x.B y d) (tk : L2N.Takes X x.W) (hr : RoomH kk X.A) (he : PE X e (tVar i)) (hg : Gl X n := by rfl) (hdb : (n == ("__debug__" : Str)) = false := by decide)
    (hst : starEach [e] X.env = (false, eval e X.env) :: starEach [] X.env := by rfl) (hpl : (backTo pos (starEach [] X.env)).any (·.1) = false := by rfl) :
    PE X (.Call (.Name n p) [e] [] pos) (tK X.K x .fz (eTk i (dCall (fun _ => m y) []))) := by
  obtain ⟨f, fd, ps, k', hk, Fn, hm, hkp, hb⟩ := C.ex
  refine ⟨fun pins s σ H Q I h => ?_⟩
  obtain ⟨F, ρ, r, S, ee, w⟩ := h
  unfold eTk at ee
  by_cases hi : isTk ρ[i]? = true
  rotate_left
  · rw [if_neg hi] at ee; cases ee
  rw [if_pos hi] at ee
  obtain ⟨j, hj⟩ := isTk_ex hi
  have hv : σ[i]? = some (some (.ref a)) := by rw [S.tk i j hj, hT j]
  refine wpAny_Call_Name_kw (ld_glob I hg hm ?_ hdb)
  refine PySem.W.callWith_K (h₀ := X.base) I.ok.mod.kin hkp (thn ((pa_cons (te := tVar i) he pa_nil hst).run pos pins s σ H (fun vs H1 => vs = [.ref a] ∧ H1 = H) I ⟨.ref a, hv, rfl, rfl⟩) fun us s1 ⟨vs, H1, I1, rv, e1, e2⟩ => ⟨I1.kIn, ?_⟩) hst hpl
  subst e1 e2
  obtain ⟨u, rfl, ru⟩ := vals1 rv
  cases ru
  obtain ⟨oe, h2, h3, h4⟩ := hot.ex
  have P1 := I1.pin (a, oe) (List.mem_append_left _ h2)
  have pin : PinOk X.stack H1 s1 (a, oe) := ⟨P1.1, P1.2.1, fun hm => (List.mem_cons.mp (I1.stkSub a hm)).elim P1.2.2.1 P1.2.2.2.1, P1.2.2.2.2⟩
  have bt := hb s1 [.ref a] I1.kIn (by rw [List.append_nil]; exact Fn.len.symm)
  rw [List.append_nil] at bt
  have xrH : XR H1 y d := by
    revert hB
    unfold XR
    cases y <;> first | exact fun q => q | exact fun ⟨dd, q1, q2⟩ => ⟨dd, q1, S.bh _ _ q2⟩
  unfold dCall at ee
  have rk : RoomH k' X.A := hr.mono hk
  cases em : m y with
  | none => rw [em] at ee; cases ee
  | some o =>
    rw [em] at ee
    have wd : WdO X.K x.A o F H1 Q (WE x.W σ) := by
      cases o with
      | ret dd =>
        cases (Option.some.inj ee)
        exact fun F' H' v G r => w F' H' v G r
      | reto ds' =>
        cases (Option.some.inj ee)
        intro F' H' l ws G e0 e5 e3 e4
        have ex' : Ex F' (upd F' l (.lst ws)) := .new e5
        refine w (upd F' l (.lst ws)) H' (.ref l) ⟨G.f.trans ex', G.h, fun c o hc => ?_, fun c o hc => ?_⟩ (Rep.lst upd_same (e4.mono ex'))
        · by_cases q : c = l
          · subst q; rw [upd_same] at hc; rw [← hc]; exact e3
          · rw [upd_ne q] at hc; exact G.i c o hc
        · rw [upd_ne (ne_of_none hc e0)]
          exact G.n c o hc
      | exc z =>
        cases (Option.some.inj ee)
        exact fun F' H' dd G r => w F' H' dd G r
    refine wpAny_call (codeAny_mono (Fn.run X.A X.stack s1 H1 F ⟨[.ref a], []⟩ Q (WE x.W σ) (a, oe) y d o rk pin h3 h4 I1.env0 bt S.fh xrH em wd) fun r s2 hq => ?_)
    cases r with
    | error z => exact L2N.passAt tk σ pins H1 s1 z s2 I1 hq
    | ok fl =>
      cases fl with
      | ret u => exact I1.after hq
      | next => exact hq.elim
      | brk => exact hq.elim
      | cont => exact hq.elim
/-- isinstance(n, C) of the handled refusal -/
theorem pk_isE {c : Expr} {cv : V} {u : Value} {b : Bool} (C : ExcC X.K (x.A.xc y.cl)) (hot : HotE x.A X a y none) (hT : ∀ j, x.T j = .ref a) (cu : ∀ z, RelV cv z → z = u) (kb : PySem.W.kitOne X.K (.ref (x.A.xc y.cl)) u = some b) (hm : X.mg "isinstance" = none) (hg : Gl X "isinstance") (hc : PE X c (tC cv)) (he : PE X e (tVar i))
    (hs : starEach [e, c] X.env = (false, eval e X.env) :: starEach [c] X.env := by rfl) (hs2 : starEach [c] X.env = (false, eval c X.env) :: starEach [] X.env := by rfl) (hpl : (backTo pos (starEach [c] X.env)).any (·.1) = false := by rfl) :
    PE X (.Call (.Name "isinstance" p) [e, c] [] pos) (tK X.K x .fz (eTk i (ok (.bl b)))) := by
  have call : CallR X (.builtin "isinstance") (fun xs H Q => xs = [.ref a, cv] ∧ Q (.bl b) H) := by
    rintro pins s σ H xs us Q I r ⟨rfl, q⟩
    obtain ⟨u1, u2, rfl, r1, r2⟩ := vals2 r
    cases r1
    cases (cu _ r2)
    obtain ⟨oe, h2, h3, vs, hv⟩ := hot.ex
    have P1 := I.pin (a, oe) (List.mem_append_left _ h2)
    have J : PySem.W.InstAt s.heap a oe (x.A.xc y.cl) none := by
      obtain ⟨oc, od, oda, osl⟩ := oe
      obtain ⟨z1, z2⟩ := h3
      dsimp only at z1 z2 hv
      subst z1 z2 hv
      exact ⟨P1.1, rfl, rfl, trivial⟩
    exact PySem.W.kia_one (PySem.W.handS_kitx_exc C.hg C.hk C.hs C.hd C.ha C.hn C.ht C.hm) I.kIn J kb (fun z => nomatch z) fun t1 => ⟨.bl b, H, I.kept (t' := t1) fun _ _ z => z, rfl, q⟩
  refine pe_wk (pe_callB call hg hm (by decide +kernel) (pa_cons he (pa_cons hc pa_nil hs2) hs) (he := hs) (hpl := hpl)) fun σ H Q ⟨F, ρ, r, S, ee, w⟩ => ?_
  unfold eTk at ee
  by_cases hi : isTk ρ[i]? = true
  rotate_left
  · rw [if_neg hi] at ee; cases ee
  rw [if_pos hi] at ee
  cases (Option.some.inj ee)
  obtain ⟨j, hj⟩ := isTk_ex hi
  exact ⟨.ref a, by rw [S.tk i j hj, hT j], rfl, w F H _ (.refl S.fh) (.bl b)⟩
end
end Tw
/-! TwO: try .. except X as n, except X; more of lists. -/
namespace Tw
open PySem PySem.Spec PyProof.Rows L2
open L2H (RoomH Hot1)
def noTk (ρ : Ro) : Bool := ρ.all fun e => match e with
  | .tk _ => false
  | _ => true
theorem noTk_of {ρ : Ro} (h : noTk ρ = true) {j n : Nat} (e : ρ[j]? = some (.tk n)) : False := by
  have := List.all_eq_true.mp h _ (List.mem_of_getElem? e)
  simp at this
open Classical in
/-- all that stands, but the lists of one's own -/
noncomputable def subB (H : Hp) (σ : L2.St) (ρ : Ro) : Hp := fun c => if ∃ (j : Nat) (ds : List D), ρ[j]? = some (.ow ds) ∧ σ[j]? = some (some (.ref c)) then none else H c
section
variable {K : PySem.W.Frag} {A : Ad} {T T' : Nat → V} {B F0 F H F' H' : Hp} {σ σ' : L2.St} {ρ ρ' : Ro} {i : Nat} {a : Addr}
theorem SR.subLe (S : SR K A T B F0 F H σ ρ) : Ex B (subB H σ ρ) := fun c o hc => by
  unfold subB
  rw [if_neg]
  · exact S.bh c o hc
  · rintro ⟨j, ds, h1, h2⟩
    obtain ⟨l, vs, e1, e2, e3, e4, e5⟩ := S.ow j ds h1
    rw [e1] at h2
    cases h2
    rw [e3] at hc
    cases hc
theorem SR.sub (S : SR K A T B F0 F H σ ρ) : SR K A T (subB H σ ρ) F F H σ ρ := by
  refine ⟨S.fh, fun c o hc => ?_, .refl _, fun _ _ _ => rfl, S.len, S.fz, fun j ds hj => ?_, S.sep, S.tk⟩
  · unfold subB at hc
    split at hc
    · cases hc
    · exact hc
  · obtain ⟨l, vs, e1, e2, e3, e4, e5⟩ := S.ow j ds hj
    refine ⟨l, vs, e1, e2, ?_, e4, e5⟩
    unfold subB
    rw [if_pos ⟨j, ds, hj, e1⟩]
theorem SR.toTk (S : SR K A T B F0 F H σ ρ) {v : V} (hv : T 0 = v) : SR K A T B F0 F H (σ.set i (some v)) (ρ.set i (.tk 0)) where
  fh := S.fh
  bh := S.bh
  f0 := S.f0
  nw := S.nw
  len := by rw [List.length_set, List.length_set, S.len]
  fz := fun j e h => by
    rcases set_get h with ⟨rfl, q⟩ | ⟨q, h'⟩
    · cases q
    · obtain ⟨w, h1, h2⟩ := S.fz j e h'
      exact ⟨w, by rw [List.getElem?_set_ne (Ne.symm q)]; exact h1, h2⟩
  ow := fun j es h => by
    rcases set_get h with ⟨rfl, q⟩ | ⟨q, h'⟩
    · cases q
    · obtain ⟨l, vs, h1, h2⟩ := S.ow j es h'
      exact ⟨l, vs, by rw [List.getElem?_set_ne (Ne.symm q)]; exact h1, h2⟩
  sep := fun j k ds es hne hj hk => by
    rcases set_get hj with ⟨rfl, q⟩ | ⟨q, hj'⟩
    · cases q
    · rcases set_get hk with ⟨rfl, q2⟩ | ⟨q2, hk'⟩
      · cases q2
      · rw [List.getElem?_set_ne (Ne.symm q), List.getElem?_set_ne (Ne.symm q2)]
        exact S.sep j k ds es hne hj' hk'
  tk := fun j n h => by
    rcases set_get h with ⟨rfl, q⟩ | ⟨q, h'⟩
    · cases q
      have hl : j < σ.length := by
        have := (List.getElem?_eq_some_iff.mp h).1
        rw [List.length_set] at this
        rw [S.len]; exact this
      rw [List.getElem?_set_self hl, hv]
    · rw [List.getElem?_set_ne (Ne.symm q)]
      exact S.tk j n h'
theorem SR.unsub (S : SR K A T B F0 F H σ ρ) (S' : SR K A T' (subB H σ ρ) F F' H' σ' ρ') (hn : noTk ρ' = true) : SR K A T B F0 F' H' σ' ρ' :=
  ⟨S'.fh, S.subLe.trans S'.bh, S.f0.trans S'.f0, fun c o hc => (S'.nw c o (S.subLe c o hc)).trans (S.nw c o hc), S'.len, S'.fz, (fun j ds hj => by
    obtain ⟨l, vs, e1, e2, e3, e4, e5⟩ := S'.ow j ds hj
    refine ⟨l, vs, e1, e2, ?_, e4, e5⟩
    cases q : B l with
    | none => rfl
    | some o => rw [S.subLe l o q] at e3; cases e3), S'.sep, fun j n hj => (noTk_of hn hj).elim⟩
theorem Grow.unsub (S : SR K A T B F0 F H σ ρ) (G : Grow F (subB H σ ρ) F' H') : Grow F0 B F' H' :=
  ⟨S.f0.trans G.f, S.subLe.trans G.h, G.i, fun c o hc => (G.n c o (S.subLe c o hc)).trans (S.nw c o hc)⟩
end
theorem xr_sub {H : Hp} {σ : L2.St} {ρ : Ro} {K : PySem.W.Frag} {A : Ad} {T : Nat → V} {B F0 F : Hp} (S : SR K A T B F0 F H σ ρ) {y : Xn} {d : Option Addr} (h : XR H y d) : XR (subB H σ ρ) y d := by
  have key : ∀ dd fs, H dd = some (.xd fs) → subB H σ ρ dd = some (.xd fs) := fun dd fs hd => by
    unfold subB
    rw [if_neg]
    · exact hd
    · rintro ⟨j, ds, h1, h2⟩
      obtain ⟨l, vs, e1, e2, e3, e4, e5⟩ := S.ow j ds h1
      rw [e1] at h2
      cases h2
      rw [e4] at hd
      cases hd
  revert h
  unfold XR
  cases y <;> first | exact fun q => q | exact fun ⟨dd, q1, q2⟩ => ⟨dd, q1, key _ _ q2⟩
/-- in an except suite: the refusal's slot, what stood -/
noncomputable def fxS (x : Fx) (a : Addr) (B' F' : Hp) : Fx := ⟨x.A, fun _ => .ref a, B', F', fun _ _ _ _ => False⟩
def sTryAs (i : Nat) (ct : Xc → Option Bool) (gb : Ro → Option Fl) (gs : Xn → Ro → Option Fl) : Ro → Option Fl := fun ρ => match gb ρ with
  | some (.ex y ρ1) => match ct y.cl with
    | some true => if noTk ρ1 = true then match gs y (ρ1.set i (.tk 0)) with
      | some (.nx ρ2) => if noTk (ρ2.set i .un) = true then some (.nx (ρ2.set i .un)) else none
      | some (.rt d) => some (.rt d)
      | some (.rto ds) => some (.rto ds)
      | _ => none
      else none
    | some false => some (.ex y ρ1)
    | none => none
  | o => o
theorem takesF {X : Cx} : L2N.Takes X (fun _ _ _ _ => False) := fun u s' ⟨_, _, _, _, _, _, _, _, _, _, _, _, _, _, _, _, w⟩ => w.elim
section
variable {X : Cx} {x : Fx} {n xn : Str} {g : Addr} {i : Nat} {body suite : List Stmt} {b₀ : Stmt} {np pos pos' : Pos} {gb : Ro → Option Fl} {gs : Xn → Ro → Option Fl} {ct : Xc → Option Bool}
theorem pks_tryAs (hs : X.stack = X.env :: X.outer) (hf : X.env.frame = some X.env.locals) (hN : X.N.Nodup) (hi : X.N[i]? = some n) (hln : X.env.kindOf n = some .local) (hc : Names X xn (.ref g)) (tk : L2N.Takes X x.W)
    (hct : ∀ y b, ct y = some b → PySem.W.exmOne X.K (.ref (x.A.xc y)) (.ref g) = some b)
    (hb : ∀ (W : WX) (pn : List (Addr × Obj)) (xe : Value → Shared → Prop), L2N.Takes (X.tr pn xe) W → PassesOwn (model X.prog X.w) X.A X.env xe → PSs (X.tr pn xe) body (tS X.K ⟨x.A, x.T, x.B, x.F0, W⟩ gb))
    (hsu : ∀ (a : Addr) (y : Xn) (d : Option Addr) (B' F' : Hp) (pn : List (Addr × Obj)), HotE x.A (X.suite a pn) a y d → XR B' y d → PSs (X.suite a pn) (b₀ :: suite) (tS X.K (fxS x a B' F') (gs y))) :
    PS X (.Try body [.ExceptHandler (some (.Name xn np)) (some n) (b₀ :: suite) pos'] [] [] pos) (tS X.K x (sTryAs i ct gb gs)) := by
  refine ps_wk (L2N.ps_try_as (tb := fun W => tS X.K ⟨x.A, x.T, x.B, x.F0, W⟩ gb) (ts := fun a cls d E σ H => ∃ (y : Xn) (B' F' : Hp), cls = .ref (x.A.xc y.cl) ∧ XR B' y d ∧ tS X.K (fxS x a B' F') (gs y) E σ H) hs hf hN hi hln hc tk hb (fun a oe cls d pn hz hfl => ?_)) fun E σ H ⟨F, ρ, fl, S, e, w⟩ => ?_
  · refine ⟨fun pins s σ H E I ⟨y, B', F', ec, xr, q⟩ => ?_⟩
    subst ec
    obtain ⟨vs, hv⟩ := hfl
    exact (hsu a y d B' F' _ ⟨oe, List.mem_cons_self, hz.zc, vs, hv⟩ xr).run pins s σ H E I q
  · unfold sTryAs at e
    cases eg : gb ρ with
    | none => rw [eg] at e; cases e
    | some f1 =>
      rw [eg] at e
      refine ⟨F, ρ, f1, S, eg, ?_⟩
      cases f1 with
      | nx ρ1 => cases (Option.some.inj e); exact w
      | rt ρ1 => cases (Option.some.inj e); exact w
      | rto ρ1 => cases (Option.some.inj e); exact w
      | bk ρ1 => cases (Option.some.inj e); exact w
      | ct ρ1 => cases (Option.some.inj e); exact w
      | ex y ρ1 =>
        intro F1 H1 σ1 e1 S1 dd xr
        dsimp only at e
        cases ec : ct y.cl with
        | none => rw [ec] at e; cases e
        | some b =>
          rw [ec] at e
          cases b with
          | false =>
            cases (Option.some.inj e)
            exact ⟨false, hct _ _ ec, (fun z => nomatch z), fun _ => w F1 H1 σ1 e1 S1 dd xr⟩
          | true =>
            refine ⟨true, hct _ _ ec, fun _ a ha => ?_, (fun z => nomatch z)⟩
            dsimp only at e
            by_cases hn : noTk ρ1 = true
            rotate_left
            · rw [if_neg hn] at e; cases e
            rw [if_pos hn] at e
            have Ssub : SR X.K x.A (fun _ => V.ref a) (subB H1 σ1 ρ1) F1 F1 H1 σ1 ρ1 := (S1.sub).reT fun j m q => (noTk_of hn q).elim
            have Stk := Ssub.toTk (i := i) (v := V.ref a) rfl
            refine ⟨y, subB H1 σ1 ρ1, F1, rfl, xr_sub S1 xr, ?_⟩
            cases es : gs y (ρ1.set i (.tk 0)) with
            | none => rw [es] at e; cases e
            | some f2 =>
              rw [es] at e
              refine ⟨F1, _, f2, Stk, es, ?_⟩
              cases f2 with
              | nx ρ2 =>
                dsimp only at e
                by_cases hn2 : noTk (ρ2.set i .un) = true
                rotate_left
                · rw [if_neg hn2] at e; cases e
                rw [if_pos hn2] at e
                cases (Option.some.inj e)
                intro F2 H2 σ2 e2 S2
                exact w F2 H2 (σ2.set i none) (e1.trans e2) (S1.unsub (S2.dropV (i := i)) hn2)
              | rt d =>
                cases (Option.some.inj e)
                exact fun F2 H2 v G r => w F2 H2 v (Grow.unsub S1 G) r
              | rto ds =>
                cases (Option.some.inj e)
                intro F2 H2 l vs G hl h2 h3 h4
                refine w F2 H2 l vs (Grow.unsub S1 G) ?_ h2 h3 h4
                cases q : x.B l with
                | none => rfl
                | some o =>
                  have : subB H1 σ1 ρ1 l = none := hl
                  rw [S1.subLe l o q] at this; cases this
              | bk ρ2 => cases e
              | ct ρ2 => cases e
              | ex z ρ2 => cases e
end
end Tw
/-! TwP: count and index of flat lists; isinstance of a refusal by a table. -/
namespace Tw
open PySem PySem.Spec PyProof.Rows L2
open L2H (RoomH Hot1)
def flat1 : D → Option V
  | .non => some .non
  | .bl b => some (.bl b)
  | .int i => some (.int i)
  | .str s => some (.str s)
  | _ => none
def flats : List D → Option (List V)
  | [] => some []
  | d :: ds => match flat1 d, flats ds with
    | some v, some vs => some (v :: vs)
    | _, _ => none
section
variable {K : PySem.W.Frag} {A : Ad} {F H H0 : Hp}
theorem flat1_rep {d : D} {v u : V} (h : flat1 d = some v) (r : Rep K A F u d) : u = v ∧ flatV v = true := by
  cases r <;> first | (cases h; exact ⟨rfl, rfl⟩) | cases h
theorem flats_rep : ∀ {ds : List D} {vs us : List V}, flats ds = some vs → RepL K A F us ds → us = vs ∧ vs.all flatV = true
  | [], vs, us, h, r => by cases r; cases h; exact ⟨rfl, rfl⟩
  | d :: ds, vs, us, h, r => by
    cases r with
    | cons r1 r2 =>
      unfold flats at h
      split at h
      · rename_i v ws h1 h2
        cases (Option.some.inj h)
        obtain ⟨e1, f1⟩ := flat1_rep h1 r1
        obtain ⟨e2, f2⟩ := flats_rep h2 r2
        exact ⟨by rw [e1, e2], by rw [List.all_cons, f1, f2]; rfl⟩
      · cases h
end
def cntV (vs : List V) (v : V) : Nat := vs.countP fun z => eqV z v
theorem cnt_vals {v : V} : ∀ {vs : List V} {us : List Value}, Vals vs us → vs.all flatV = true → us.countP (eqU v) = cntV vs v
  | _, _, .nil, _ => rfl
  | y :: ys, u :: us, .cons r t, f => by
    rw [List.all_cons, Bool.and_eq_true] at f
    have ih := cnt_vals (v := v) t f.2
    unfold cntV at ih ⊢
    rw [List.countP_cons, List.countP_cons, ih, eqU_of r f.1]
section
variable {X : Cx}
def rCntF (K : PySem.W.Frag) : V → List V → Hp → VK → Prop := fun x xs H Q => ∃ (a : Addr) (ys : List V) (v : V), x = .ref a ∧ xs = [v] ∧ SqL K H a ys ∧ flatV v = true ∧ ys.all flatV = true ∧ Q (.int (cntV ys v : Nat)) H
theorem mt_cntF : MtR X "list.count" (rCntF X.K) := by
  rintro pins s σ H x xs z us Q I rx rxs ⟨a, ys, v, rfl, rfl, sq, fv, fys, q⟩
  cases rx
  obtain ⟨u, rfl, ru⟩ := vals1 rxs
  obtain ⟨its, rv, ⟨⟨oc, od, odt, osl⟩, n, ho, hc, hdn, hd⟩, hlen⟩ := I.list sq
  dsimp only at hc hd
  subst hc hd
  refine call_meets PySem.F.slot_list_count ⟨_, ho, rfl⟩ PySem.F.entry_list_count (PySem.F.args_list_count_2 _ _) (SeqAt.list_countAt a its.toArray n od osl u (eqU v)) ⟨ho, fun y hy => mem_eqAt ru fv rv fys y (by simpa using hy), ?_⟩
  have ec : its.toArray.toList.countP (eqU v) = cntV ys v := cnt_vals rv fys
  refine ⟨.int (cntV ys v : Nat), H, I.tok _, ⟨s.toks, ?_⟩, q⟩
  rw [ec]
end
def dCount (xs es : List D) : EM D := match flats xs, es with
  | some vs, [e] => match flat1 e with
    | some v => ok (.int (cntV vs v : Nat))
    | none => none
  | _, _ => none
def fstV (v : V) : List V → Option Nat
  | [] => none
  | z :: r => if eqV z v = true then some 0 else (fstV v r).map (· + 1)
theorem fstV_some {v : V} : ∀ {vs : List V} {j : Nat}, fstV v vs = some j → (∃ z, vs[j]? = some z ∧ eqV z v = true) ∧ ∀ (m : Nat) z', m < j → vs[m]? = some z' → eqV z' v = false
  | [], j, h => by cases h
  | z :: r, j, h => by
    unfold fstV at h
    by_cases q : eqV z v = true
    · rw [if_pos q] at h
      cases (Option.some.inj h)
      exact ⟨⟨z, rfl, q⟩, fun m z' hm => by omega⟩
    · rw [if_neg q] at h
      obtain ⟨i, hi, rfl⟩ := Option.map_eq_some_iff.mp h
      obtain ⟨⟨z2, h1, h2⟩, h3⟩ := fstV_some hi
      refine ⟨⟨z2, by simpa using h1, h2⟩, fun m z' hm hz => ?_⟩
      cases m with
      | zero =>
        have : z = z' := by simpa using hz
        subst this
        exact Bool.eq_false_iff.mpr q
      | succ m => exact h3 m z' (by omega) (by simpa using hz)
def dIndex (xs es : List D) : EM D := match flats xs, es with
  | some vs, [e] => match flat1 e with
    | some v => match fstV v vs with
      | some j => ok (.int (j : Nat))
      | none => none
    | none => none
  | _, _ => none
def eLm (h : List D → List D → EM D) (g : Ro → EM D) (fs : Ro → EM (List D)) : Ro → EM D := fun ρ => bnd (g ρ) fun d => match d with
  | .lst xs => bnd (fs ρ) fun ds => h xs ds
  | _ => none
section
variable {X : Cx} {x : Fx} {o e : Expr} {apos pos : Pos} {g : Ro → EM D} {fs : Ro → EM (List D)}
theorem pk_count (ho : PE X o (tK X.K x .bw g)) (ha : PA X [e] (tA X.K x .bw fs))
    (hbase : attributeBase o "count" X.env (eval o X.env) = eval o X.env := by rfl)
    (hfew : ((backTo pos (starEach [e] X.env)).all (fun x => !x.1) && (backToKw pos (keywordEach [] X.env)).all (fun x => x.1.isSome)
      && decide ([e].length + ([] : List Keyword).length + (if ([] : List Keyword).isEmpty then 0 else 1) < 30)) = true := by rfl)
    (hline : (apos.endLine == pos.line) = true := by rfl) (hs : starEach [e] X.env = (false, eval e X.env) :: starEach [] X.env := by rfl) (hplain : (backTo pos (starEach [] X.env)).any (·.1) = false := by rfl) :
    PE X (.Call (.Attribute o "count" apos) [e] [] pos) (tK X.K x .fz (eLm dCount g fs)) :=
  pe_wk (pe_bm PySem.F.plainAttrs_list PySem.F.slot_list_count PySem.F.type_list_count mt_cntF ho ha hbase hfew hline hs hplain) fun σ H Q ⟨F, ρ, r, S, ee, w⟩ =>
    tk_step S ee w.x fun d F1 H1 v G1 S1 r1 e1 => by
      split at e1
      · rename_i xs
        obtain ⟨a, vs, rfl, h1, q1⟩ := r1.lst S1.fh
        refine ⟨.inl ⟨rfl, _, .of h1⟩, ta_step S1 e1 (fun y hy => Wx.grow (K := X.K) G1 (w.x y hy)) fun ds F2 H2 us G2 S2 r2 e2 => ?_⟩
        unfold dCount at e2
        split at e2
        · rename_i ws d hf
          split at e2
          · rename_i u hu
            cases (Option.some.inj e2)
            obtain ⟨e3, f3⟩ := flats_rep hf q1
            cases r2 with
            | cons ra rb =>
              cases rb
              obtain ⟨e4, f4⟩ := flat1_rep hu (RK.rep ra fun _ z => by subst z; cases hu)
              subst e3 e4
              exact ⟨a, _, _, rfl, rfl, .inl (.inl (G2.h _ _ h1)), f4, f3, w F2 H2 _ (G1.trans G2) (.int _)⟩
          · cases e2
        · cases e2
      · cases e1
theorem pk_index (ho : PE X o (tK X.K x .bw g)) (ha : PA X [e] (tA X.K x .bw fs))
    (hbase : attributeBase o "index" X.env (eval o X.env) = eval o X.env := by rfl)
    (hfew : ((backTo pos (starEach [e] X.env)).all (fun x => !x.1) && (backToKw pos (keywordEach [] X.env)).all (fun x => x.1.isSome)
      && decide ([e].length + ([] : List Keyword).length + (if ([] : List Keyword).isEmpty then 0 else 1) < 30)) = true := by rfl)
    (hline : (apos.endLine == pos.line) = true := by rfl) (hs : starEach [e] X.env = (false, eval e X.env) :: starEach [] X.env := by rfl) (hplain : (backTo pos (starEach [] X.env)).any (·.1) = false := by rfl) :
    PE X (.Call (.Attribute o "index" apos) [e] [] pos) (tK X.K x .fz (eLm dIndex g fs)) :=
  pe_wk (pe_bm PySem.F.plainAttrs_list PySem.F.slot_list_index PySem.F.type_list_index mt_index ho ha hbase hfew hline hs hplain) fun σ H Q ⟨F, ρ, r, S, ee, w⟩ =>
    tk_step S ee w.x fun d F1 H1 v G1 S1 r1 e1 => by
      split at e1
      · rename_i xs
        obtain ⟨a, vs, rfl, h1, q1⟩ := r1.lst S1.fh
        refine ⟨.inl ⟨rfl, _, .of h1⟩, ta_step S1 e1 (fun y hy => Wx.grow (K := X.K) G1 (w.x y hy)) fun ds F2 H2 us G2 S2 r2 e2 => ?_⟩
        unfold dIndex at e2
        split at e2
        · rename_i ws d hf
          split at e2
          · rename_i u hu
            split at e2
            · rename_i j hj
              cases (Option.some.inj e2)
              obtain ⟨e3, f3⟩ := flats_rep hf q1
              cases r2 with
              | cons ra rb =>
                cases rb
                obtain ⟨e4, f4⟩ := flat1_rep hu (RK.rep ra fun _ z => by subst z; cases hu)
                subst e3 e4
                obtain ⟨⟨z, g1, g2⟩, g3⟩ := fstV_some hj
                exact ⟨a, _, _, j, z, rfl, rfl, .inl (.inl (G2.h _ _ h1)), f4, f3, g1, g2, g3, w F2 H2 _ (G1.trans G2) (.int _)⟩
            · cases e2
          · cases e2
        · cases e2
      · cases e1
end
/-! ### a refusal -/
def dIsE (tab : Xc → Option Bool) (y : Xn) : EM D := (tab y.cl).map fun b => .ok (.bl b)
def IsTabE (K : PySem.W.Frag) (A : Ad) (u : Value) (tab : Xc → Option Bool) : Prop := ∀ c b, tab c = some b → (c ≠ .badRow ∧ c ≠ .badDay) ∧ ExcC K (A.xc c) ∧ PySem.W.kitOne K (.ref (A.xc c)) u = some b
theorem xr_none {H : Hp} {y : Xn} {d : Option Addr} (h : XR H y d) (h1 : y.cl ≠ .badRow ∧ y.cl ≠ .badDay) : d = none := by
  cases y <;> first | exact h | exact absurd rfl h1.1 | exact absurd rfl h1.2
section
variable {X : Cx} {x : Fx} {a : Addr} {y : Xn} {d : Option Addr} {e c : Expr} {p pos : Pos} {i : Nat} {cv : V} {u : Value} {tab : Xc → Option Bool}
theorem pk_isEt (T : IsTabE X.K x.A u tab) (hot : HotE x.A X a y d) (hB : XR x.B y d) (hT : ∀ j, x.T j = .ref a) (cu : ClsV cv u) (hm : X.mg "isinstance" = none) (hg : Gl X "isinstance") (hc : PE X c (tC cv)) (he : PE X e (tVar i))
    (hs : starEach [e, c] X.env = (false, eval e X.env) :: starEach [c] X.env := by rfl) (hs2 : starEach [c] X.env = (false, eval c X.env) :: starEach [] X.env := by rfl) (hpl : (backTo pos (starEach [c] X.env)).any (·.1) = false := by rfl) :
    PE X (.Call (.Name "isinstance" p) [e, c] [] pos) (tK X.K x .fz (eTk i (dIsE tab y))) := by
  cases et : tab y.cl with
  | none =>
    refine ⟨fun pins s σ H Q I ⟨F, ρ, r, S, ee, w⟩ => ?_⟩
    unfold eTk dIsE at ee
    rw [et] at ee
    split at ee <;> cases ee
  | some b =>
    obtain ⟨h1, h2, h3⟩ := T _ _ et
    have hd := xr_none hB h1
    subst hd
    have := pk_isE (i := i) (p := p) (pos := pos) h2 hot hT (fun z q => cu.eq q) h3 hm hg hc he hs hs2 hpl
    unfold dIsE
    rw [et]
    exact this
end
theorem roomS {k : Nat} {X : Cx} {a : Addr} {pn : List (Addr × Obj)} (r : Room k X.A) : RoomH k (X.suite a pn).A := ⟨r.dp, r.un⟩
theorem huH {A : Around} {k : Nat} (r : RoomH k A) : A.units + 64 < PySem.cLine := by have := r.un; omega
theorem huH5 {A : Around} {k : Nat} (r : RoomH k A) : A.units + 65 < PySem.cLine := by have := r.un; omega
theorem no_cx {P : Program} {w : World} {H : Hp} {s s' : Shared} {u : Value} (z : L2N.CX P w [] H s (fun _ _ _ => False) u s') : False := by
  obtain ⟨_, _, _, _, _, _, _, _, _, _, _, _, q⟩ := z
  exact q
theorem zipNo {nm : Str} : ∀ {ns : List Str} {vs : List V}, nm ∉ ns → (ns.zip vs).lookup nm = none
  | [], _, _ => rfl
  | n :: ns, [], _ => rfl
  | n :: ns, v :: vs, h => by
    rw [List.zip_cons_cons, List.lookup_cons, beq_false_of_ne fun q => h (by rw [q]; exact List.mem_cons_self)]
    exact zipNo fun q => h (List.mem_cons_of_mem _ q)
theorem kit_ref {K : PySem.W.Frag} {C : Addr} {t : Value} {b : Bool} (hd : PySem.W.hasDictIn K C = true) (ht : PySem.W.typeIn K (.ref C) = some (.type "type")) (hs : PySem.W.subIn K (.ref C) (.ref C) = some true) (h : PySem.W.subIn K t (.ref C) = some b) : PySem.W.kitOne K t (.ref C) = some b := by
  unfold PySem.W.kitOne
  by_cases q : (t == Value.ref C) = true
  · rw [if_pos q]
    rw [beq_iff_eq.mp q, hs] at h
    exact h
  · rw [if_neg q]
    obtain ⟨cd, hc, _⟩ := PySem.W.any_some hd
    show (if ((PySem.W.clsIn K C).isSome && PySem.W.typeIn K (.ref C) == some (.type "type")) = true then PySem.W.subIn K t (.ref C) else none) = some b
    rw [hc, ht]
    exact h
theorem kit_ve {K : PySem.W.Frag} {D : Addr} {b : Bool} (h : PySem.W.subIn K (.ref D) (.type "ValueError") = some b) : PySem.W.kitOne K (.ref D) (.type "ValueError") = some b := by
  unfold PySem.W.kitOne
  rw [if_neg (by simp)]
  show (if PySem.W.kitMeta "ValueError" = true then PySem.W.subIn K (.ref D) (.type "ValueError") else none) = some b
  rw [if_pos (by decide +kernel)]
  exact h
end Tw
/-! TwQ: a text times an int. -/
namespace Tw
open PySem PySem.Spec PyProof.Rows L2
def repS (a : Str) (i : Int) : Str := if i < 1 then Str.empty else if (i == 1 || a.length == 0) = true then a else ⟨(List.replicate i.toNat a.cps).foldl (· ++ ·) #[]⟩
def rRepS : R2 := fun x y H Q => ∃ a i, x = .str a ∧ y = .int i ∧ 0 ≤ i ∧ i ≤ 100 ∧ a.length ≤ 100 ∧ Q (.str (repS a i)) H
theorem short {a : Str} {i : Int} (h0 : 0 ≤ i) (h1 : i ≤ 100) (h2 : a.length ≤ 100) : Builtin.Str.tooLong (a.length * i.toNat) = false := by
  unfold Builtin.Str.tooLong
  have h3 : a.length * i.toNat ≤ 100 * 100 := Nat.mul_le_mul h2 (by omega)
  have e : sizeLine = 16777216 := sizeLine_eq
  exact decide_eq_false (by omega)
section
variable {X : Cx} {x : Fx} {a b : Expr} {pos : Pos} {f g : Ro → EM D}
theorem op_repS : OpR X (binaryOp .Mult) rRepS := by
  rintro pins s σ H z y v u Q I rz ry ⟨a, i, rfl, rfl, h0, h1, h2, q⟩
  obtain ⟨t, rfl⟩ := rz
  obtain ⟨t', rfl⟩ := ry
  refine P.mul_str ?_ (fun p1 _ => ?_) (fun _ _ => ?_) ?_
  · have e1 : ¬ i < -(2 ^ 63 : Int) := by omega
    have e2 : ¬ i ≥ 2 ^ 63 := by omega
    rw [decide_eq_false e1, decide_eq_false e2]; rfl
  · have hp : 0 < i := by omega
    have : (a.length : Int) ≤ (2 ^ 63 - 1) / i := by
      apply Int.le_ediv_of_mul_le hp
      have : (a.length : Int) * i ≤ 100 * 100 := Int.mul_le_mul (by omega) h1 h0 (by decide)
      omega
    omega
  · exact short h0 h1 h2
  · have fin : ∀ tk n, EP X pins σ Q (.str (repS a i) tk) { s with toks := n } := fun tk n => ⟨.str (repS a i), H, I.tok _, ⟨_, rfl⟩, q⟩
    unfold repS at fin
    split
    · rename_i p1
      rw [if_pos p1] at fin
      exact ⟨by decide, fin _ _⟩
    · rename_i p1
      rw [if_neg p1] at fin
      split
      · rename_i p2
        rw [if_pos p2] at fin
        exact fin t s.toks
      · rename_i p2
        rw [if_neg p2] at fin
        exact ⟨fits_reps (short h0 h1 h2), fin _ _⟩
def dMulS (d e : D) : EM D := match d, e with
  | .str a, .int i => if 0 ≤ i ∧ i ≤ 100 ∧ a.length ≤ 100 then ok (.str (repS a i)) else none
  | _, _ => none
theorem op2_mulS {k : Kd} (hk : k ≠ .ow) : Op2 X.K x k rRepS dMulS := fun F H σ v u d e q Q ex rv ru hq w => by
  unfold dMulS at hq
  split at hq
  · split at hq
    · rename_i h
      cases (Option.some.inj hq)
      rw [rk_str rv, rk_int ru]
      refine ⟨_, _, rfl, rfl, h.1, h.2.1, h.2.2, w F H _ (.refl ex) (by
        cases k with
        | bw => exact .inl (.str _)
        | fz => exact .str _
        | ow => exact absurd rfl hk)⟩
    · cases hq
  · cases hq
theorem nox_mulS : NoX dMulS := fun d e y h => by
  unfold dMulS at h
  split at h
  · split at h <;> cases h
  · cases h
theorem pk_mulS (ha : PE X a (tK X.K x .bw f)) (hb : PE X b (tK X.K x .bw g)) : PE X (.BinOp a .Mult b pos) (tK X.K x .fz (eOp dMulS f g)) := pk_op op_repS (op2_mulS (by decide)) nox_mulS ha hb
end
end Tw
/-! TwV: evaluation of the mirrors by simp. -/
namespace Tw
open PySem PySem.Spec PyProof.Rows L2
theorem bnd_ok {α β : Type} (a : α) (f : α → EM β) : bnd (some (.ok a)) f = f a := rfl
theorem bnd_er {α β : Type} (e : Xn) (f : α → EM β) : bnd (some (.error e)) f = some (.error e) := rfl
theorem bnd_if {α β : Type} {c : Prop} [Decidable c] (a b : EM α) (f : α → EM β) : bnd (if c then a else b) f = if c then bnd a f else bnd b f := by split <;> rfl
theorem toS_ok {α : Type} (ρ : Ro) (a : α) (g : α → Option Fl) : toS ρ (some (.ok a)) g = g a := rfl
theorem toS_er {α : Type} (ρ : Ro) (e : Xn) (g : α → Option Fl) : toS ρ (some (.error e)) g = some (.ex e ρ) := rfl
theorem toS_if {α : Type} {c : Prop} [Decidable c] (ρ : Ro) (a b : EM α) (g : α → Option Fl) : toS ρ (if c then a else b) g = if c then toS ρ a g else toS ρ b g := by split <;> rfl
theorem out_if {c : Prop} [Decidable c] (a b : Option Fl) : outOf (if c then a else b) = if c then outOf a else outOf b := by split <;> rfl
theorem out_rt (d : D) : outOf (some (.rt d)) = some (.ret d) := rfl
theorem out_rto (d : List D) : outOf (some (.rto d)) = some (.reto d) := rfl
theorem out_ex (e : Xn) (ρ : Ro) : outOf (some (.ex e ρ)) = some (.exc e) := rfl
theorem out_nx (ρ : Ro) : outOf (some (.nx ρ)) = some (.ret .non) := rfl
theorem seq_nx {g1 g2 : Ro → Option Fl} {ρ ρ' : Ro} (h : g1 ρ = some (.nx ρ')) : sSeq g1 g2 ρ = g2 ρ' := by unfold sSeq; rw [h]
theorem seq_rt {g1 g2 : Ro → Option Fl} {ρ : Ro} {d : D} (h : g1 ρ = some (.rt d)) : sSeq g1 g2 ρ = some (.rt d) := by unfold sSeq; rw [h]
theorem seq_ex {g1 g2 : Ro → Option Fl} {ρ ρ' : Ro} {e : Xn} (h : g1 ρ = some (.ex e ρ')) : sSeq g1 g2 ρ = some (.ex e ρ') := by unfold sSeq; rw [h]
theorem for_nil {t : Tg} {g : Ro → Option Fl} {ρ : Ro} : forD t g [] ρ = some (.nx ρ) := rfl
theorem for_cons {t : Tg} {g : Ro → Option Fl} {d : D} {ds : List D} {ρ ρ1 ρ2 : Ro} (ht : t d ρ = some ρ1) (h : g ρ1 = some (.nx ρ2)) : forD t g (d :: ds) ρ = forD t g ds ρ2 := by
  show (match t d ρ with | none => none | some ρ1 => match g ρ1 with | some (.nx ρ2) => forD t g ds ρ2 | some (.ct ρ2) => forD t g ds ρ2 | some (.bk ρ2) => some (.nx ρ2) | o => o) = _
  rw [ht]; dsimp only; rw [h]
theorem for_ex {t : Tg} {g : Ro → Option Fl} {d : D} {ds : List D} {ρ ρ1 ρ2 : Ro} {y : Xn} (ht : t d ρ = some ρ1) (h : g ρ1 = some (.ex y ρ2)) : forD t g (d :: ds) ρ = some (.ex y ρ2) := by
  show (match t d ρ with | none => none | some ρ1 => match g ρ1 with | some (.nx ρ2) => forD t g ds ρ2 | some (.ct ρ2) => forD t g ds ρ2 | some (.bk ρ2) => some (.nx ρ2) | o => o) = _
  rw [ht]; dsimp only; rw [h]
theorem for_rt {t : Tg} {g : Ro → Option Fl} {d : D} {ds : List D} {ρ ρ1 : Ro} {y : D} (ht : t d ρ = some ρ1) (h : g ρ1 = some (.rt y)) : forD t g (d :: ds) ρ = some (.rt y) := by
  show (match t d ρ with | none => none | some ρ1 => match g ρ1 with | some (.nx ρ2) => forD t g ds ρ2 | some (.ct ρ2) => forD t g ds ρ2 | some (.bk ρ2) => some (.nx ρ2) | o => o) = _
  rw [ht]; dsimp only; rw [h]
theorem call_ret {m : List D → Option Out} {ds : List D} {d : D} (h : m ds = some (.ret d)) : dCall m ds = some (.ok d) := by unfold dCall; rw [h]; rfl
theorem call_exc {m : List D → Option Out} {ds : List D} {d : Xn} (h : m ds = some (.exc d)) : dCall m ds = some (.error d) := by unfold dCall; rw [h]
theorem call_reto {m : List D → Option Out} {ds : List D} {d : List D} (h : m ds = some (.reto d)) : dCall m ds = some (.ok (.lst d)) := by unfold dCall; rw [h]; rfl
theorem def_all {na : Nat} {h : List D → EM D} {cs : List D} (hl : cs.length = na) : dDef na [] h cs = h cs := by unfold dDef; rw [List.append_nil, if_pos hl]
theorem def_dd {na : Nat} {dds : List D} {h : List D → EM D} {cs : List D} (hl : (cs ++ dds).length = na) : dDef na dds h cs = h (cs ++ dds) := by unfold dDef; rw [if_pos hl]
theorem not_tt (p : Ro → EM Bool) (ρ : Ro) (b : Bool) (h : p ρ = some (.ok b)) : bNot p ρ = some (.ok (!b)) := by unfold bNot; rw [h]; rfl
/-- an expression evaluated -/
theorem call_ev {f : List D → EM D} {fs : Ro → EM (List D)} {ρ : Ro} {ds : List D} {r : EM D} (h1 : fs ρ = some (.ok ds)) (h2 : f ds = r) : eCall f fs ρ = r := by unfold eCall; rw [h1]; exact h2
theorem op_ev {h : D → D → EM D} {f g : Ro → EM D} {ρ : Ro} {d e : D} {r : EM D} (h1 : f ρ = some (.ok d)) (h2 : g ρ = some (.ok e)) (h3 : h d e = r) : eOp h f g ρ = r := by unfold eOp; rw [h1]; show bnd (g ρ) _ = _; rw [h2]; exact h3
theorem bT_ev {f : Ro → EM D} {ρ : Ro} {b : Bool} (h : f ρ = some (.ok (.bl b))) : bT f ρ = some (.ok b) := by unfold bT; rw [h]; rfl
theorem bT_er {f : Ro → EM D} {ρ : Ro} {b : Xn} (h : f ρ = some (.error b)) : bT f ρ = some (.error b) := by unfold bT; rw [h]; rfl
theorem or_t {p q : Ro → EM Bool} {ρ : Ro} (h : p ρ = some (.ok true)) : bOr p q ρ = some (.ok true) := by unfold bOr; rw [h]; rfl
theorem or_f {p q : Ro → EM Bool} {ρ : Ro} {r : EM Bool} (h : p ρ = some (.ok false)) (h2 : q ρ = r) : bOr p q ρ = r := by unfold bOr; rw [h]; exact h2
theorem and_f {p q : Ro → EM Bool} {ρ : Ro} (h : p ρ = some (.ok false)) : bAnd p q ρ = some (.ok false) := by unfold bAnd; rw [h]; rfl
theorem and_t {p q : Ro → EM Bool} {ρ : Ro} {r : EM Bool} (h : p ρ = some (.ok true)) (h2 : q ρ = r) : bAnd p q ρ = r := by unfold bAnd; rw [h]; exact h2
theorem if_t {c : Ro → EM Bool} {g1 g2 : Ro → Option Fl} {ρ : Ro} {r : Option Fl} (h : c ρ = some (.ok true)) (h2 : g1 ρ = r) : sIf c g1 g2 ρ = r := by unfold sIf; rw [h]; exact h2
theorem if_f {c : Ro → EM Bool} {g1 g2 : Ro → Option Fl} {ρ : Ro} {r : Option Fl} (h : c ρ = some (.ok false)) (h2 : g2 ρ = r) : sIf c g1 g2 ρ = r := by unfold sIf; rw [h]; exact h2
theorem if_e {c : Ro → EM Bool} {g1 g2 : Ro → Option Fl} {ρ : Ro} {e : Xn} (h : c ρ = some (.error e)) : sIf c g1 g2 ρ = some (.ex e ρ) := by unfold sIf; rw [h]; rfl
theorem set_ev {i : Nat} {f : Ro → EM D} {ρ : Ro} {d : D} (h : f ρ = some (.ok d)) : sSet i f ρ = some (.nx (ρ.set i (.fz d))) := by unfold sSet; rw [h]; rfl
theorem set_er {i : Nat} {f : Ro → EM D} {ρ : Ro} {e : Xn} (h : f ρ = some (.error e)) : sSet i f ρ = some (.ex e ρ) := by unfold sSet; rw [h]; rfl
theorem ret_ev {f : Ro → EM D} {ρ : Ro} {d : D} (h : f ρ = some (.ok d)) : sRet f ρ = some (.rt d) := by unfold sRet; rw [h]; rfl
theorem ret_er {f : Ro → EM D} {ρ : Ro} {e : Xn} (h : f ρ = some (.error e)) : sRet f ρ = some (.ex e ρ) := by unfold sRet; rw [h]; rfl
theorem run_ret {n : Nat} {body : Ro → Option Fl} {ds : List D} {d : D} (h : body (startE n ds) = some (.rt d)) : runD n body ds = some (.ret d) := by unfold runD; rw [h]; rfl
theorem run_exc {n : Nat} {body : Ro → Option Fl} {ds : List D} {d : Xn} {ρ : Ro} (h : body (startE n ds) = some (.ex d ρ)) : runD n body ds = some (.exc d) := by unfold runD; rw [h]; rfl
theorem make_er {m : List D → EM (List D)} {c : Cl} {cs : List D} {e : Xn} (h : m cs = some (.error e)) : dMake m c cs = some (.error e) := by unfold dMake; rw [h]; rfl
theorem make_ok {m : List D → EM (List D)} {c : Cl} {cs fs : List D} (h : m cs = some (.ok fs)) : dMake m c cs = some (.ok (.obj c fs)) := by unfold dMake; rw [h]; rfl
theorem iS_nx {g : Ro → Option Fl} {g2 : Ro → Fs → Option IFl} {ρ ρ' : Ro} {fs : Fs} {r : Option IFl} (h : g ρ = some (.nx ρ')) (h2 : g2 ρ' fs = r) : iSeq (iS g) g2 ρ fs = r := by unfold iSeq iS; rw [h]; exact h2
theorem iS_ex {g : Ro → Option Fl} {g2 : Ro → Fs → Option IFl} {ρ ρ' : Ro} {fs : Fs} {e : Xn} (h : g ρ = some (.ex e ρ')) : iSeq (iS g) g2 ρ fs = some (.ex e) := by unfold iSeq iS; rw [h]
theorem init_er {names : List Str} {n : Nat} {body : Ro → Fs → Option IFl} {ds : List D} {e : Xn} (h : body (startI n ds) [] = some (.ex e)) : runI names n body ds = some (.error e) := by unfold runI; rw [h]
theorem try_nx {i : Nat} {ct : Xc → Option Bool} {gb : Ro → Option Fl} {gs : Xn → Ro → Option Fl} {ρ ρ' : Ro} (h : gb ρ = some (.nx ρ')) : sTryAs i ct gb gs ρ = some (.nx ρ') := by unfold sTryAs; rw [h]
theorem try_rt {i : Nat} {ct : Xc → Option Bool} {gb : Ro → Option Fl} {gs : Xn → Ro → Option Fl} {ρ ρ1 : Ro} {y : Xn} {d : D} (h : gb ρ = some (.ex y ρ1)) (h1 : ct y.cl = some true) (h2 : noTk ρ1 = true) (h3 : gs y (ρ1.set i (.tk 0)) = some (.rt d)) : sTryAs i ct gb gs ρ = some (.rt d) := by
  unfold sTryAs; rw [h]; dsimp only; rw [h1]; dsimp only; rw [if_pos h2, h3]
end Tw
/-! TwR: defs that may count on an empty row of guards; str of nested data; the end for such a law. -/
namespace Tw
open PySem PySem.Spec PyProof.Rows L2
/-- a def's promise where no repr is under way -/
structure FnG (P : Program) (w : World) (K : PySem.W.Frag) (mg : Str → Option Value) (base : Heap) (C : CXT) (k : Nat) (f : Addr) (fd : FuncData) (ps : List Str) (sp : Sp) : Prop where
  len : ∀ vs H Q E, sp vs H Q E → vs.length = ps.length
  go : ∀ (R : Around) (out : List Env) (s : Shared) (H : Hp) (args : Args) (us : List Value) (vs : List V) (Q : VK) (E : XK), R.guards = some [] → Room k R → Env0 P w K mg base R out s H → BindsTo s fd args (ps.zip us) → Vals vs us → sp vs H Q E →
    codeAny (model P w) R (.call (.ref f) args) (CR C out P w H s Q E) s
section
variable {P : Program} {w : World} {K : PySem.W.Frag} {mg : Str → Option Value} {base : Heap} {C : CXT} {k : Nat} {f : Addr} {fd : FuncData} {ps : List Str} {sp sp' : Sp}
theorem FnG.imp (F : FnG P w K mg base C k f fd ps sp) (h : ∀ vs H Q E, sp' vs H Q E → sp vs H Q E) : FnG P w K mg base C k f fd ps sp' :=
  ⟨fun vs H Q E q => F.len vs H Q E (h _ _ _ _ q), fun R out s H args us vs Q E g hr e0 b r q => F.go R out s H args us vs Q E g hr e0 b r (h _ _ _ _ q)⟩
theorem FnG.low {j : Nat} (F : FnG P w K mg base C j f fd ps sp) (h : j ≤ k) : FnG P w K mg base C k f fd ps sp :=
  ⟨F.len, fun R out s H args us vs Q E g hr => F.go R out s H args us vs Q E g (hr.mono h)⟩
theorem FnG.of_body {nm qual : Str} {params : Arguments} {bd : List Stmt} {scope : Scope} {dV kV doc pm cdv ct oc : Value} {an od : Option Addr} {osl : Array (Option Value)} {N : List Str}
    (lk : K.lookup f = some ⟨oc, od, .func (PySem.W.fnOf nm qual params bd scope dV kV doc pm an cdv ct), osl⟩) (cd : PySem.W.codeIn K cdv qual = true) (S : FnScope N ps scope) (ln : ∀ vs H Q E, sp vs H Q E → vs.length = ps.length)
    (hb : ∀ (R : Around) (out : List Env) (s : Shared) (H : Hp) (vs : List V) (Q : VK) (E : XK), R.guards = some [] → Room k (R.deeper (envOfC qual scope s.heap.objs.size f cdv)) → sp vs H Q E →
      ∃ t, PSs (cxOf C P w K mg base N qual scope f cdv R out s H E) bd t ∧ t { nx := fun _ G => Q .non G, rt := Q } (L2.start N vs) H) :
    FnG P w K mg base C (k + 1) f (PySem.W.fnOf nm qual params bd scope dV kV doc pm an cdv ct) ps sp := by
  refine ⟨ln, fun R out s H args us vs Q E g hr e0 bi r q => ?_⟩
  have kp : ∀ b o, base.get? b = some o → s.heap.get? b = some o := fun b o z => (e0.bs b o z).1
  have inK : K.In s.heap := e0.mod.kin.keeps kp
  refine codeAny_call_function hr.depth (inK _ _ lk) rfl S.co S.gen rfl (PySem.W.codeRec_of inK cd) (bi _ _ _ _ ?_)
  refine wpAny_newFunctionEnv_cells S.kind (fun y hy => ?_) fun env ev s1 x => ?_
  · obtain ⟨n, v⟩ := y
    rcases S.par n (List.of_mem_zip hy).1 with z | z
    · exact Or.inl z
    · exact Or.inr ⟨z, PySem.W.cellsFrom_some _ _ _ (Or.inl z)⟩
  subst ev
  refine ⟨(e0.mod.nolimit.keeps kp).keeps x.toInCall.keep, codeAny_func ?_⟩
  obtain ⟨t, ht, hq⟩ := hb R out s H vs Q E g (hr.deeper _) q
  have J := inv_start (CX := C) (P := P) (w := w) (E := E) S hr.hd e0 (ln _ _ _ _ q) r x
  refine wpAny_mono (ht.run [] s1 _ H _ J hq) (fun fl s' z => ?_) fun e s' z => z
  match fl, z with
  | .ret u, ⟨v, σ', H', J', rv, q'⟩ => exact ⟨v, H', J'.os, J'.bare, J'.base, J'.hok, rv, q'⟩
  | .next, ⟨σ', H', J', q'⟩ => exact ⟨V.non, H', J'.os, J'.bare, J'.base, J'.hok, rfl, q'⟩
  | .brk, ⟨_, _, _, z'⟩ => exact z'.elim
  | .cont, ⟨_, _, _, z'⟩ => exact z'.elim
end
section
variable {P : Program} {w : World} {K : PySem.W.Frag} {mg : Str → Option Value} {base : Heap}
/-- a def by its body -/
theorem fnG {nm qual : Str} {st : Stmt} {f : Addr} {fd : FuncData} {N ps : List Str} {k : Nat} {A : Ad} {body : Ro → Option Fl} (F : Fun K nm qual st f fd) (S : FnScope N ps (defScope st))
    (hb : ∀ (cdv : Value) (A' : Around) (outer : List Env) (s : Shared) (H F0 : Hp) (E : XK), A'.guards = some [] → Room k (A'.deeper (envOfC qual (defScope st) s.heap.objs.size f cdv)) →
      PSs (cxOf (L2N.CX P w) P w K mg base N qual (defScope st) f cdv A' outer s H E) (defBody st) (tS K (fxOf A H F0 E) body)) :
    FnG P w K mg base (L2N.CX P w) (k + 1) f fd ps (spD K A ps.length (runD N.length body)) := by
  obtain ⟨oc, od, kV, doc, pm, an, cdv, ct, osl, rfl, lk, cd⟩ := F.ex
  exact FnG.of_body lk cd S spD_len fun R out s H vs Q E g hr ⟨F0, ds, o, e, r, l, hm, wd⟩ => ⟨_, hb cdv R out s H F0 E g hr, run_body e r hm wd⟩
end
/-- a def of this kind that is called by its name -/
structure CalG (P : Program) (w : World) (K : PySem.W.Frag) (mg : Str → Option Value) (base : Heap) (A : Ad) (k : Nat) (nm : Str) (na : Nat) (m : List D → Option Out) : Prop where
  ex : ∃ f fd ps k', k' ≤ k ∧ FnG P w K mg base (L2N.CX P w) k' f fd ps (spD K A na m) ∧ mg nm = some (.ref f) ∧ PySem.W.keepIn K (.ref f) = true ∧ Binds K fd ps []
section
variable {X : Cx} {x : Fx} {n : Str} {p pos : Pos} {e : Expr} {es : List Expr} {fs : Ro → EM (List D)} {kk na : Nat} {m : List D → Option Out}
theorem run_gd {C : CXT} {E : L2.St → XK} {f : Addr} {fd : FuncData} {ps : List Str} {sp : Sp} {k : Nat} {pins : List (Addr × Obj)} {σ : L2.St} {H : Hp} {s : Shared} {Q : VK} {us : List Value} {vs : List V} (F : FnG X.prog X.w X.K X.mg X.base C k f fd ps sp) (hg : X.A.guards = some []) (hr : Room k X.A) (hb : Binds X.K fd ps []) (hx : PassesAt C X σ (E σ))
    (I : Inv X pins σ H s) (r : Vals vs us) (h : sp vs H Q (E σ)) : wpAny (model X.prog X.w) X.A (call (.ref f) us) (EP X pins σ Q) X.xe s := by
  have hl : us.length = ps.length := by rw [← r.length]; exact F.len _ _ _ _ h
  have hb' := hb s us I.kIn (by rw [List.append_nil]; exact hl)
  rw [List.append_nil] at hb'
  refine wpAny_call (codeAny_mono (F.go X.A X.stack s H ⟨us, []⟩ us vs Q (E σ) hg hr I.env0 hb' r h) fun z s' hq => ?_)
  match z, hq with
  | .error e, hq => exact hx pins H s e s' I hq
  | .ok (.ret u), hq => exact I.after hq
  | .ok .next, hq => exact hq.elim
  | .ok .brk, hq => exact hq.elim
  | .ok .cont, hq => exact hq.elim
theorem pk_gd (C : CalG X.prog X.w X.K X.mg X.base x.A kk n na m) (tk : L2N.Takes X x.W) (hgd : X.A.guards = some []) (hr : Room kk X.A) (ha : PA X (e :: es) (tA X.K x .fz fs)) (hg : Gl X n := by rfl) (hdb : (n == ("__debug__" : Str)) = false := by decide) (he : starEach (e :: es) X.env = (false, eval e X.env) :: starEach es X.env := by rfl) (hpl : (backTo pos (starEach es X.env)).any (·.1) = false := by rfl) :
    PE X (.Call (.Name n p) (e :: es) [] pos) (tK X.K x .fz (eCall (dDef na [] (dCall m)) fs)) := by
  obtain ⟨f, fd, ps, k', hk, Fn, hm, hkp, hb⟩ := C.ex
  refine pe_wk (t := tCallG (spD X.K x.A na m) [] (WE x.W) (tA X.K x .fz fs)) ⟨fun pins s σ H Q I h => ?_⟩ fun σ H Q ⟨F, ρ, r, S, e, w⟩ =>
    ta_step S e w.x fun cs F1 H1 vs G1 S1 r1 e1 => by
      obtain ⟨hl, e2⟩ := dDef_some e1
      rw [List.append_nil] at hl e2
      show spD X.K x.A na m (vs ++ []) H1 Q (WE x.W σ)
      rw [List.append_nil]
      exact sp_call S1.fh r1.repL hl e2 (w.grow G1)
  refine wpAny_Call_Name_kw (ld_glob I hg hm ?_ hdb)
  refine PySem.W.callWith_K (h₀ := X.base) I.ok.mod.kin hkp (thn (ha.run pos pins s σ H _ I h) fun us s1 ⟨vs, H1, I1, r, q⟩ => ⟨I1.kIn, ?_⟩) he hpl
  have q' : spD X.K x.A na m (vs ++ []) H1 Q (WE x.W σ) := q
  rw [List.append_nil] at q'
  exact run_gd (E := WE x.W) Fn hgd (hr.mono hk) hb (L2N.passAt tk σ) I1 r q'
end
/-! ### the end of a law whose def is of this kind -/
theorem law_gd {P : Program} {w : World} {K : PySem.W.Frag} {mg mb : Str → Option Value} {C : CXT} {k : Nat} {fa a : Addr} {fd : FuncData} {x : Str} {sp : Sp} {t : Shared} {vs : List Value} {ns : List Int} (inK : K.In t.heap) (n1 : t.heap.Ns mainGlobals mg) (n2 : t.heap.Ns builtinsNs mb)
    (n3 : ∀ y : Str, y ≠ "__name__" → mb y = bootBuiltins y) (lim : t.heap.NoLimit) (g0 : t.gens = #[]) (ha : t.heap.get? a = some { cls := .type "list", data := .seq vs.toArray }) (hi : IntsAre vs ns) (hl : ns.length ≤ sizeLine) (hr : Room k callerA)
    (F : ∀ B : Heap, K.In B → B.Ns mainGlobals mg → FnG P w K mg B C k fa fd [x] sp) (hb : ∀ (s : Shared) (u : Value), BindsTo s fd ⟨[u], []⟩ [(x, u)])
    (hs : ∀ H : Hp, SqL K H a (ns.map V.int) → sp [.ref a] H (fun v _ => v = .bl true) fun _ _ _ => False) (hC : ∀ H e s', C [] H t (fun _ _ _ => False) e s' → False) :
    codeAny (model P w) callerA (.call (.ref fa) ⟨[.ref a], []⟩) (fun r s' => r = .ok (.ret (.bool true)) ∧ OldK t.heap s'.heap ∧ s'.os = t.os ∧ AllBare s'.gens) t := by
  have rv := vals_ints hi
  have lv := hi.length
  -- the heap by which the script may be tracked
  obtain ⟨H, hO, hS, hok, hA, hK⟩ : ∃ H : Hp, (∀ b, H b = none ∨ ∃ o xs, H b = some (.frz o (.lst xs))) ∧ SqL K H a (ns.map V.int) ∧ HOk P w H t.heap ∧ (∀ b, H b ≠ none → b = a) ∧ (H a ≠ none → K.lookup a = none) := by
    cases lk : K.lookup a with
    | some o =>
      have z := (inK a o lk).symm.trans ha
      cases z
      exact ⟨fun _ => none, fun _ => Or.inl rfl, Or.inr ⟨_, vs.toArray, _, lk, rfl, rfl, rfl, by rw [List.size_toArray, lv]; exact hl, by simpa using rv⟩, fun b u z => (nomatch z), fun b z => absurd rfl z, fun z => absurd rfl z⟩
    | none =>
      refine ⟨fun b => if b = a then some (.frz { cls := .type "list", data := .seq vs.toArray } (.lst (ns.map V.int))) else none, fun b => ?_, Or.inl (Or.inr ⟨_, if_pos rfl⟩), fun b u z => ?_, fun b z => ?_, fun _ => rfl⟩
      · dsimp only
        split
        · exact Or.inr ⟨_, _, rfl⟩
        · exact Or.inl rfl
      · dsimp only at z
        split at z
        · rename_i e
          cases z
          subst e
          exact ⟨ha, by rw [List.length_map]; exact hl, vs, _, rv, ha⟩
        · cases z
      · dsimp only at z
        split at z
        · assumption
        · exact absurd rfl z
  have free : ∀ {b : Addr} {o : Obj}, t.heap.get? b = some o → (b = a → H b = none) → H b = none := fun {b o} e h => by
    cases q : H b with
    | none => rfl
    | some u => exact q ▸ h (hA b (by rw [q]; exact fun z => nomatch z))
  have ns' : ∀ {b : Addr} {m : Str → Option Value}, t.heap.Ns b m → (hidT t.heap H).Ns b m := fun {b m} ⟨o, es, ep, e, d, r⟩ => ⟨o, es, ep, hidT_get e (free e fun z => by
    subst z
    rw [ha] at e
    cases e
    cases d), d, r⟩
  have inB : K.In (hidT t.heap H) := fun b o e => hidT_get (inK b o e) (by
    cases q : H b with
    | none => rfl
    | some u =>
      have z := hA b (by rw [q]; exact fun z => nomatch z)
      subst z
      rw [hK (by rw [q]; exact fun z => nomatch z)] at e
      cases e)
  have mo : Mod K mg (hidT t.heap H) := ⟨inB, ns' n1, ⟨mb, ns' n2, n3⟩, by obtain ⟨mc, y1, y2⟩ := lim; exact ⟨mc, ns' y1, y2⟩⟩
  have e0 : Env0 P w K mg (hidT t.heap H) callerA [] t H := ⟨rfl, mo, fun b o e => of_hidT e, Nat.le_of_eq (hidT_size _ _), trivial, (fun b z => (nomatch (show b ∈ ([] : List Addr) from z))), hok, .of_eq g0⟩
  refine codeAny_mono ((F _ inB (ns' n1)).go callerA [] t H _ [.ref a] [.ref a] _ _ rfl hr e0 (hb t (.ref a)) (.cons rfl .nil) (hs H hS)) fun r s' h => ?_
  match r, h with
  | .error e, h => exact (hC H e s' h).elim
  | .ok .next, h => exact h.elim
  | .ok .brk, h => exact h.elim
  | .ok .cont, h => exact h.elim
  | .ok (.ret u), ⟨v, H', os, bare, un, hok', r', q⟩ =>
    obtain rfl : v = .bl true := q
    obtain rfl : u = Value.bool true := r'
    refine ⟨rfl, OldK.of_keep fun b o e => ?_, os, bare⟩
    rcases hO b with z | ⟨ob, xs, z⟩
    · exact un.keep b o e z (fun y => (nomatch (show b ∈ ([] : List Addr) from y))) (fun y => nomatch y)
    · obtain ⟨y1, _⟩ := hok b _ z
      obtain ⟨y2, _⟩ := hok' b _ (un.frzs b ob _ z)
      exact y2.trans (y1.symm.trans e)
theorem walk_gd {l : PySem.W.OpenLaw} {n k : Nat} {q : Program} {loose : List Str} {XP : (Str → Option Value) → Heap → Prop} {YP : World → Heap → Prop} {d : DefRec} {K : Params → PySem.W.Frag} {C : World → CXT} {sp : World → Sp} {x : Str} (hn : l.most = some n) (hz : n ≤ sizeLine) (hdf : d.params.defaults = []) (hr : Room k callerA)
    (hY : ∀ (w : World) (h : Heap), YP w h → (K w.params).In h)
    (F : ∀ (w : World) (mg : Str → Option Value) (fa : Addr) (h : Heap), (K w.params).In h → h.Ns mainGlobals mg → mg d.name = some (.ref fa) → ∃ fd : FuncData, (∀ (s : Shared) (u : Value), BindsTo s fd ⟨[u], []⟩ [(x, u)]) ∧
      ∀ B : Heap, (K w.params).In B → B.Ns mainGlobals mg → FnG l.prog w (K w.params) mg B (C w) k fa fd [x] (sp w))
    (hs : ∀ (w : World) (H : Hp) (a : Addr) (ns : List Int), ns.length ≤ n → SqL (K w.params) H a (ns.map V.int) → sp w [.ref a] H (fun v _ => v = .bl true) fun _ _ _ => False)
    (hC : ∀ (w : World) (H : Hp) (s : Shared) (e : Value) (s' : Shared), C w [] H s (fun _ _ _ => False) e s' → False) : PySem.W.WalkO q loose XP YP l.row.toRowW d [] (fun f vs => PySem.call f vs) := by
  refine Att.attach_call hn hdf fun w s0 t mg mb fa o pm cd doc a vs ns G Y ho hd hcd hmg hobj hints hlen hg => ?_
  obtain ⟨fd, b1, b2⟩ := F w mg fa _ (hY w _ Y) G.T.g hmg
  exact law_gd (hY w _ Y) G.T.g G.T.b G.T.builtins G.T.nolimit hg hobj hints (Nat.le_trans hlen hz) hr b2 b1 (fun H hS => hs w H a ns hlen hS) fun H e s' => hC w H t e s'
/-! ### str of nested data -/
mutual
/-- small leaves -/
def smD : D → Bool
  | .non | .bl _ => true
  | .int i => decide (i.natAbs < 10 ^ 12)
  | .str x => decide (x.cps.size ≤ 12) && ((x.cps.toList.all fun c => decide (c < 16 ^ 8)) && PyData.strOk x)
  | .lst xs | .tup xs => smL xs
  | _ => false
def smL : List D → Bool
  | [] => true
  | x :: xs => smD x && smL xs
end
mutual
def szD : D → Nat
  | .lst xs | .tup xs => szL xs + 1
  | _ => 1
def szL : List D → Nat
  | [] => 0
  | x :: xs => szD x + szL xs
end
mutual
def dpD : D → Nat
  | .lst xs | .tup xs => dpL xs + 1
  | _ => 0
def dpL : List D → Nat
  | [] => 0
  | x :: xs => max (dpD x) (dpL xs)
end
def okS (d : D) : Bool := smD d && (decide (szD d ≤ 20000) && decide (dpD d ≤ 60))
mutual
theorem py_sm : ∀ d : D, smD d = true → (py d).showable = true ∧ (py d).hasDict = false ∧ (py d).leavesShort 13 = true ∧ (py d).weight + 1 ≤ 42 * szD d ∧ (py d).depth ≤ dpD d
  | .non, _ => ⟨by simp [py, PyData.showable], by simp [py, PyData.hasDict], by simp [py, PyData.leavesShort], by simp [py, PyData.weight, szD], by simp [py, PyData.depth]⟩
  | .bl b, _ => ⟨by simp [py, PyData.showable], by simp [py, PyData.hasDict], by simp [py, PyData.leavesShort], by simp [py, PyData.weight, szD], by simp [py, PyData.depth]⟩
  | .int i, h => by
    have h' : i.natAbs < 10 ^ 12 := by simpa [smD] using h
    have hl : i.natAbs.log2 < 40 := by
      by_cases z : i.natAbs = 0
      · rw [z]; decide
      · exact (Nat.log2_lt z).mpr (by omega)
    refine ⟨by simp [py, PyData.showable]; omega, by simp [py, PyData.hasDict], by simp [py, PyData.leavesShort]; exact PyData.shown_int_le h', ?_, by simp [py, PyData.depth]⟩
    simp only [py, PyData.weight, szD]
    split <;> omega
  | .str x, h => by
    have h' : x.cps.size ≤ 12 ∧ (x.cps.toList.all fun c => decide (c < 16 ^ 8)) = true := by
      simp only [smD, Bool.and_eq_true, decide_eq_true_eq] at h
      exact ⟨h.1, h.2.1⟩
    refine ⟨by simp [py, PyData.showable], by simp [py, PyData.hasDict], by simp only [py, PyData.leavesShort]; exact h'.2, ?_, by simp [py, PyData.depth]⟩
    simp only [py, PyData.weight, szD]
    omega
  | .lst xs, h => by
    obtain ⟨a, b, c, d, e⟩ := py_smL xs (by simpa [smD] using h)
    refine ⟨by simp only [py, PyData.showable]; exact a, by simp only [py, PyData.hasDict]; exact b, by simp only [py, PyData.leavesShort]; exact c, ?_, ?_⟩
    · simp only [py, PyData.weight, szD]; omega
    · simp only [py, PyData.depth, dpD]; omega
  | .tup xs, h => by
    obtain ⟨a, b, c, d, e⟩ := py_smL xs (by simpa [smD] using h)
    refine ⟨by simp only [py, PyData.showable]; exact a, by simp only [py, PyData.hasDict]; exact b, by simp only [py, PyData.leavesShort]; exact c, ?_, ?_⟩
    · simp only [py, PyData.weight, szD]; omega
    · simp only [py, PyData.depth, dpD]; omega
  | .obj _ _, h => by simp [smD] at h
  | .scr _, h => by simp [smD] at h
  | .ord _, h => by simp [smD] at h
theorem py_smL : ∀ ds : List D, smL ds = true → PyData.showableAll (pyL ds) = true ∧ PyData.hasDictAll (pyL ds) = false ∧ PyData.leavesShortAll 13 (pyL ds) = true ∧ PyData.weightAll (pyL ds) ≤ 42 * szL ds ∧ PyData.depthAll (pyL ds) ≤ dpL ds
  | [], _ => ⟨by simp [pyL, PyData.showableAll], by simp [pyL, PyData.hasDictAll], by simp [pyL, PyData.leavesShortAll], by simp [pyL, PyData.weightAll, szL], by simp [pyL, PyData.depthAll]⟩
  | x :: xs, h => by
    have h' : smD x = true ∧ smL xs = true := by simpa [smL] using h
    obtain ⟨a, b, c, d, e⟩ := py_sm x h'.1
    obtain ⟨a', b', c', d', e'⟩ := py_smL xs h'.2
    refine ⟨by simp [pyL, PyData.showableAll, a, a'], by simp [pyL, PyData.hasDictAll, b, b'], by simp [pyL, PyData.leavesShortAll, c, c'], ?_, ?_⟩
    · simp only [pyL, PyData.weightAll, szL]; omega
    · simp only [pyL, PyData.depthAll, dpL]; omega
end
section
variable {X : Cx} {x : Fx} {pins : List (Addr × Obj)} {σ : L2.St} {H : Hp} {s : Shared} {A : Ad}
mutual
theorem py_reads (I : Inv X pins σ H s) : ∀ {d : D} {v : V} {u : Value}, Rep X.K A H v d → RelV v u → smD d = true → ∃ as, Reads s.heap u (py d) as
  | .non, _, _, .non, r, _ => by cases r; exact ⟨_, by simp only [py]; exact .none⟩
  | .bl _, _, _, .bl b, r, _ => by cases r; exact ⟨_, by simp only [py]; exact .bool b⟩
  | .int _, _, _, .int i, r, _ => by obtain ⟨t, rfl⟩ := r; exact ⟨_, by simp only [py]; exact .int i t⟩
  | .str _, _, _, .str z, r, _ => by obtain ⟨t, rfl⟩ := r; exact ⟨_, by simp only [py]; exact .str z t⟩
  | .lst ds, _, _, .lst h q, r, hs => by
    cases r
    obtain ⟨its, rv, ⟨o, n, g1, g2, _, g4⟩, _⟩ := I.list (Or.inl (Or.inl h))
    obtain ⟨as, ra⟩ := py_readsL I q rv (by simpa [smD] using hs)
    exact ⟨_, by simp only [py]; exact .list g1 g2 g4 (by simpa using ra)⟩
  | .tup ds, _, _, .tup h q, r, hs => by
    cases r
    obtain ⟨its, rv, ⟨o, g1, g2, n, g4⟩, _⟩ := I.tuple (Or.inl (Or.inl h))
    obtain ⟨as, ra⟩ := py_readsL I q rv (by simpa [smD] using hs)
    exact ⟨_, by simp only [py]; exact .tuple g1 g2 g4 (by simpa using ra)⟩
  | .obj _ _, _, _, _, _, hs => by simp [smD] at hs
  | .scr _, _, _, _, _, hs => by simp [smD] at hs
  | .ord _, _, _, _, _, hs => by simp [smD] at hs
theorem py_readsL (I : Inv X pins σ H s) : ∀ {ds : List D} {vs : List V} {us : List Value}, RepL X.K A H vs ds → Vals vs us → smL ds = true → ∃ as, ReadsAll s.heap us (pyL ds) as
  | [], _, _, .nil, r, _ => by cases r; exact ⟨_, by simp only [pyL]; exact .nil⟩
  | d :: ds, _, _, .cons a b, .cons r r2, hs => by
    have h' : smD d = true ∧ smL ds = true := by simpa [smL] using hs
    obtain ⟨as, h1⟩ := py_reads I a r h'.1
    obtain ⟨bs, h2⟩ := py_readsL I b r2 h'.2
    exact ⟨_, by simp only [pyL]; exact .cons h1 h2⟩
end
def isSq : D → Bool
  | .lst _ | .tup _ => true
  | _ => false
theorem call_strD (hg : X.A.guards = some []) (hu : X.A.units + 64 < PySem.cLine) : CallR X (.type "str") (fun xs H Q => ∃ v d, xs = [v] ∧ Rep X.K A H v d ∧ isSq d = true ∧ okS d = true ∧ Q (.str (py d).shown) H) := by
  intro pins s σ H xs us Q I r h
  obtain ⟨v, d, rfl, rep, hq, ho, q⟩ := h
  have ho' : smD d = true ∧ szD d ≤ 20000 ∧ dpD d ≤ 60 := by simpa [okS] using ho
  obtain ⟨z1, z2, z3, z4, z5⟩ := py_sm d ho'.1
  cases r with
  | cons rv r0 =>
    cases r0
    obtain ⟨as, ra⟩ := py_reads I rep rv ho'.1
    obtain ⟨a, rfl⟩ : ∃ a, v = .ref a := by
      cases d with
      | lst _ => cases rep; exact ⟨_, rfl⟩
      | tup _ => cases rep; exact ⟨_, rfl⟩
      | _ => cases hq
    cases rv
    exact str_of_reads ra z1 (PyData.noDict_hsm z2) hg (by omega) (fun _ _ e => e) (fun h' u tk hk => ⟨.str _, H, I.kept hk, ⟨_, rfl⟩, q⟩) (PyData.shown_fits (B := 13) (by decide) (by decide) z3 (by omega))
/-- str of an int, of nested data -/
def dStrU (ds : List D) : EM D := match ds with
  | [.int i] => dStr [.int i]
  | [d] => if isSq d && okS d then ok (.str (py d).shown) else none
  | _ => none
theorem pk_strU {e : Expr} {p pos : Pos} {fs : Ro → EM (List D)} (hgd : X.A.guards = some []) (hu : X.A.units + 64 < PySem.cLine) (hm : X.mg "str" = none) (hg : Gl X "str") (ha : PA X [e] (tA X.K x .bw fs)) (he : starEach [e] X.env = (false, eval e X.env) :: starEach [] X.env := by rfl) : PE X (.Call (.Name "str" p) [e] [] pos) (tK X.K x .fz (eCall dStrU fs)) :=
  pk_ct (r := fun xs H Q => (∃ i, xs = [V.int i] ∧ i.natAbs.log2 < 1920 ∧ Q (.str (toString i)) H) ∨ ∃ v d, xs = [v] ∧ Rep X.K x.A H v d ∧ isSq d = true ∧ okS d = true ∧ Q (.str (py d).shown) H)
    (fun pins s σ H xs us Q I r h => by
      rcases h with h | h
      · exact call_str_int pins s σ H xs us Q I r h
      · exact call_strD (A := x.A) hgd hu pins s σ H xs us Q I r h)
    (fun F H σ vs ds q Q ex rv hq w => by
      unfold dStrU at hq
      split at hq
      · unfold dStr at hq
        dsimp only at hq
        split at hq
        · rename_i hl
          cases (Option.some.inj hq)
          obtain ⟨v, rfl, r1⟩ := rkl1 rv
          rw [rk_int r1]
          exact Or.inl ⟨_, rfl, hl, w.val ex (.str _) (by decide)⟩
        · cases hq
      · rename_i d _
        split at hq
        · rename_i hc
          have hc' : isSq d = true ∧ okS d = true := by simpa using hc
          cases (Option.some.inj hq)
          obtain ⟨v, rfl, r1⟩ := rkl1 rv
          exact Or.inr ⟨_, _, rfl, r1.all ex, hc'.1, hc'.2, w.val ex (.str _) (by decide)⟩
        · cases hq
      · cases hq) (fun ds y q => by
      unfold dStrU at q
      split at q
      · unfold dStr at q
        dsimp only at q
        split at q <;> cases q
      · split at q <;> cases q
      · cases q) hm (by decide +kernel) hg ha (he := he)
end
end Tw
/-! TwS: a walk along a list of one's own, which is left alone meanwhile. -/
namespace Tw
open PySem PySem.Spec PyProof.Rows L2
def is2 : Option Ent → Bool
  | some (.tk n) => n == 2
  | _ => false
def no2 (ρ : Ro) : Bool := ρ.all fun e => match e with
  | .tk n => n != 2
  | _ => true
theorem no2_of {ρ : Ro} (h : no2 ρ = true) {j n : Nat} (e : ρ[j]? = some (.tk n)) : n ≠ 2 := by
  have := List.all_eq_true.mp h _ (List.mem_of_getElem? e)
  simpa using this
def backO (i : Nat) (ds : List D) (ρ : Ro) : Option Ro := if (is2 ρ[i]? && no2 (ρ.set i .un)) = true then some (ρ.set i (.ow ds)) else none
def sForO (t : Tg) (i : Nat) (g : Ro → Option Fl) : Ro → Option Fl := fun ρ => match ρ[i]? with
  | some (.ow ds) => if no2 ρ = true then match forD t g ds (ρ.set i (.tk 2)) with
      | some (.nx ρ') => (backO i ds ρ').map .nx
      | some (.ex e ρ') => (backO i ds ρ').map (.ex e)
      | some (.rt d) => some (.rt d)
      | some (.rto es) => some (.rto es)
      | _ => none
    else none
  | _ => none
section
variable {K : PySem.W.Frag} {A : Ad} {T : Nat → V} {B F0 F F1 H : Hp} {σ : L2.St} {ρ : Ro} {i : Nat} {l : Addr} {vs : List V} {ds : List D}
def T2 (T : Nat → V) (l : Addr) : Nat → V := fun n => if n = 2 then .ref l else T n
theorem SR.lend (S : SR K A T B F0 F H σ ρ) (hi : ρ[i]? = some (.ow ds)) (h1 : σ[i]? = some (some (.ref l))) (h2 : F l = none) (h4 : H l = some (.lst vs)) (hn : no2 ρ = true) : SR K A (T2 T l) (upd B l (.lst vs)) F F H σ (ρ.set i (.tk 2)) where
  fh := S.fh
  bh := fun a o e => by
    by_cases q : a = l
    · subst q; rw [upd_same] at e; rw [← e]; exact h4
    · rw [upd_ne q] at e; exact S.bh a o e
  f0 := .refl _
  nw := fun _ _ _ => rfl
  len := by rw [List.length_set]; exact S.len
  fz := fun j d e => by
    rcases set_get e with ⟨rfl, q⟩ | ⟨q, e'⟩
    · cases q
    · exact S.fz j d e'
  ow := fun j es e => by
    rcases set_get e with ⟨rfl, q⟩ | ⟨q, e'⟩
    · cases q
    · obtain ⟨m, us, g1, g2, g3, g4, g5⟩ := S.ow j es e'
      refine ⟨m, us, g1, g2, ?_, g4, g5⟩
      have := S.sep j i es ds q e' hi
      rw [g1, h1] at this
      rw [upd_ne (fun z => this (by rw [z]))]
      exact g3
  sep := fun j k es fs hne hj hk => by
    rcases set_get hj with ⟨rfl, q⟩ | ⟨q, hj'⟩
    · cases q
    · rcases set_get hk with ⟨rfl, q2⟩ | ⟨q2, hk'⟩
      · cases q2
      · exact S.sep j k es fs hne hj' hk'
  tk := fun j n e => by
    rcases set_get e with ⟨rfl, q⟩ | ⟨q, e'⟩
    · cases q
      rw [h1]; rfl
    · rw [S.tk j n e']
      unfold T2
      rw [if_neg (no2_of hn e')]
theorem SR.unlend (f1 : Ex F0 F) (n1 : ∀ a o, B a = some o → F a = F0 a) (hb : B l = none) (hf : F l = none) (r : RepL K A F vs ds) (S : SR K A (T2 T l) (upd B l (.lst vs)) F F1 H σ ρ) (hi : is2 ρ[i]? = true) (hn : no2 (ρ.set i .un) = true) : SR K A T B F0 F1 H σ (ρ.set i (.ow ds)) := by
  have hi' : ρ[i]? = some (.tk 2) := by
    unfold is2 at hi
    split at hi
    · rename_i n e
      rw [e]
      simp at hi
      rw [hi]
    · cases hi
  have hl : σ[i]? = some (some (.ref l)) := S.tk i 2 hi'
  have bB : ∀ {a o}, B a = some o → upd B l (.lst vs) a = some o := fun {a o} e => by
    rw [upd_ne (ne_of_none e hb)]; exact e
  have lF : F1 l = none := by
    rw [S.nw l (.lst vs) upd_same]; exact hf
  have other : ∀ j es, j ≠ i → ρ[j]? = some (.ow es) → σ[j]? ≠ some (some (.ref l)) := fun j es hj e z => by
    obtain ⟨m, us, g1, g2, g3, g4, g5⟩ := S.ow j es e
    rw [g1] at z
    cases z
    rw [upd_same] at g3
    cases g3
  exact
  { fh := S.fh
    bh := fun a o e => S.bh a o (bB e)
    f0 := f1.trans S.f0
    nw := fun a o e => (S.nw a o (bB e)).trans (n1 a o e)
    len := by rw [List.length_set]; exact S.len
    fz := fun j d e => by
      rcases set_get e with ⟨rfl, q⟩ | ⟨q, e'⟩
      · cases q
      · exact S.fz j d e'
    ow := fun j es e => by
      rcases set_get e with ⟨rfl, q⟩ | ⟨q, e'⟩
      · cases q
        exact ⟨l, vs, hl, lF, hb, S.bh l _ upd_same, r.mono S.f0⟩
      · obtain ⟨m, us, g1, g2, g3, g4, g5⟩ := S.ow j es e'
        refine ⟨m, us, g1, g2, ?_, g4, g5⟩
        cases q2 : B m with
        | none => rfl
        | some o => rw [bB q2] at g3; cases g3
    sep := fun j k es fs hne hj hk => by
      rcases set_get hj with ⟨rfl, q⟩ | ⟨q, hj'⟩
      · rcases set_get hk with ⟨rfl, q2⟩ | ⟨q2, hk'⟩
        · exact absurd rfl hne
        · rw [hl]; exact fun z => other k fs q2 hk' z.symm
      · rcases set_get hk with ⟨rfl, q2⟩ | ⟨q2, hk'⟩
        · rw [hl]; exact other j es q hj'
        · exact S.sep j k es fs hne hj' hk'
    tk := fun j n e => by
      rcases set_get e with ⟨rfl, q⟩ | ⟨q, e'⟩
      · cases q
      · rw [S.tk j n e']
        unfold T2
        rw [if_neg (no2_of hn (show (ρ.set i .un)[j]? = some (.tk n) by rw [List.getElem?_set_ne (Ne.symm q)]; exact e'))] }
end
section
variable {X : Cx} {x : Fx} {pos : Pos}
abbrev Fx.re (x : Fx) (T' : Nat → V) (B' F' : Hp) : Fx := ⟨x.A, T', B', F', x.W⟩
theorem pks_forO {tg iter : Expr} {body : List Stmt} {t : Tg} {sl : List Nat} {i : Nat} {g : Ro → Option Fl} (hp : PassesOwn (model X.prog X.w) X.A X.env X.xe) (hc : X.calm = true) (hv : PE X iter (tVar i)) (hg : ∀ T' B' F', PG X tg (tG X.K (x.re T' B' F') sl t)) (hb : ∀ T' B' F', PSs X body (tS X.K (x.re T' B' F') g))
    (hs : ∀ z, foldedSetIterable iter X.env z = pure z := by intro _; rfl) : PS X (.For tg iter body [] pos) (tS X.K x (sForO t i g)) := by
  refine ⟨fun pins s σ H E I q => ?_⟩
  obtain ⟨F, ρ, fl, S, e, w⟩ := q
  unfold sForO at e
  split at e
  · rename_i ds hi
    split at e
    · rename_i hn
      obtain ⟨l, vs, h1, h2, h3, h4, h5⟩ := S.ow i ds hi
      have S1 := S.lend hi h1 h2 h4 hn
      have L : LentX X.K (x.re (T2 x.T l) (upd x.B l (.lst vs)) F) ds := ⟨l, vs, rfl, upd_same, h5⟩
      have base := pks_for (x := x.re (T2 x.T l) (upd x.B l (.lst vs)) F) (pos := pos) hp hc (pid_ln L hv) (hg _ _ _) (hb _ _ _) hs
      have lt : i < ρ.length := (List.getElem?_eq_some_iff.mp hi).1
      have fo : iLn i ds (ρ.set i (.tk 2)) = some (.ok ds) := by
        unfold iLn
        rw [List.getElem?_set_self lt]
        rfl
      refine base.run pins s σ H E I ⟨F, ρ.set i (.tk 2), ?_⟩
      have bB : Ex x.B (upd x.B l (.lst vs)) := fun a o z => by rw [upd_ne (ne_of_none z h3)]; exact z
      have back : ∀ {ρ' ρ2 : Ro} {F1 H1 : Hp} {σ1 : L2.St}, backO i ds ρ' = some ρ2 → SR X.K x.A (T2 x.T l) (upd x.B l (.lst vs)) F F1 H1 σ1 ρ' → SR X.K x.A x.T x.B x.F0 F1 H1 σ1 ρ2 := fun {ρ' ρ2 F1 H1 σ1} hbk S2 => by
        unfold backO at hbk
        split at hbk
        · rename_i hcnd
          cases (Option.some.inj hbk)
          rw [Bool.and_eq_true] at hcnd
          exact SR.unlend S.f0 S.nw h3 h2 h5 S2 hcnd.1 hcnd.2
        · cases hbk
      have gb : ∀ {F' H' : Hp}, Grow F (upd x.B l (.lst vs)) F' H' → Grow x.F0 x.B F' H' := fun {F' H'} G => ⟨S.f0.trans G.f, bB.trans G.h, G.i, fun a o z => (G.n a o (bB a o z)).trans (S.nw a o z)⟩
      have eF : sFor t (iLn i ds) g (ρ.set i (.tk 2)) = forD t g ds (ρ.set i (.tk 2)) := by
        unfold sFor
        rw [fo]
        rfl
      split at e
      · rename_i ρ' hf
        cases hbk : backO i ds ρ' with
        | none => rw [hbk] at e; cases e
        | some ρ2 =>
          rw [hbk] at e
          cases (Option.some.inj e)
          exact ⟨_, S1, eF.trans hf, fun F2 H2 σ2 ex S2 => w F2 H2 σ2 ex (back hbk S2)⟩
      · rename_i y ρ' hf
        cases hbk : backO i ds ρ' with
        | none => rw [hbk] at e; cases e
        | some ρ2 =>
          rw [hbk] at e
          cases (Option.some.inj e)
          exact ⟨_, S1, eF.trans hf, fun F2 H2 σ2 ex S2 => w F2 H2 σ2 ex (back hbk S2)⟩
      · rename_i d hf
        cases (Option.some.inj e)
        exact ⟨_, S1, eF.trans hf, fun F' H' v G r => w F' H' v (gb G) r⟩
      · rename_i es hf
        cases (Option.some.inj e)
        refine ⟨_, S1, eF.trans hf, fun F' H' m us G b0 f0 hm r => w F' H' m us (gb G) ?_ f0 hm r⟩
        cases q : x.B m with
        | none => rfl
        | some o => rw [show (x.re (T2 x.T l) (upd x.B l (.lst vs)) F).B m = some o from bB m o q] at b0; cases b0
      · cases e
    · cases e
  · cases e
end
end Tw
/-! TwT: a list of lists, built in place; a list of one's own, lent to an expression with a plain result. -/
namespace Tw
open PySem PySem.Spec PyProof.Rows L2
section
variable {K : PySem.W.Frag} {A : Ad} {T : Nat → V} {B F0 F F' H H' : Hp} {σ : L2.St} {ρ : Ro}
theorem SR.pre {τ : L2.St} {ρx : Ro} (S : SR K A T B F0 F H (σ ++ τ) (ρ ++ ρx)) (hl : τ.length = ρx.length) : SR K A T B F0 F H σ ρ := by
  have hn : σ.length = ρ.length := by
    have := S.len
    rw [List.length_append, List.length_append] at this
    omega
  have up : ∀ {j : Nat} {e : Ent}, ρ[j]? = some e → (ρ ++ ρx)[j]? = some e ∧ (σ ++ τ)[j]? = σ[j]? := fun {j e} h => by
    have lt := (List.getElem?_eq_some_iff.mp h).1
    exact ⟨by rw [List.getElem?_append_left lt]; exact h, by rw [List.getElem?_append_left (by omega)]⟩
  exact
  { fh := S.fh, bh := S.bh, f0 := S.f0, nw := S.nw, len := hn
    fz := fun j d e => by
      obtain ⟨v, h1, h2⟩ := S.fz j d (up e).1
      exact ⟨v, (up e).2 ▸ h1, h2⟩
    ow := fun j es e => by
      obtain ⟨l, vs, h1, h2⟩ := S.ow j es (up e).1
      exact ⟨l, vs, (up e).2 ▸ h1, h2⟩
    sep := fun j k es fs hne hj hk => by
      have := S.sep j k es fs hne (up hj).1 (up hk).1
      rw [(up hj).2, (up hk).2] at this
      exact this
    tk := fun j n e => (up e).2 ▸ S.tk j n (up e).1 }
/-- a new list of one's own, behind the others -/
theorem SR.addV {q : Addr} (S : SR K A T B F0 F H σ ρ) (hq : H q = none) : SR K A T B F0 F (upd H q (.lst [])) (σ ++ [some (.ref q)]) (ρ ++ [.ow []]) := by
  have fq := S.fh.free hq
  have bq := S.bh.free hq
  have up : ∀ {a : Addr} {o : HO}, H a = some o → upd H q (.lst []) a = some o := fun {a o} h => by rw [upd_ne (ne_of_none h hq)]; exact h
  have sp : ∀ {j : Nat} {e : Ent}, (ρ ++ [Ent.ow []])[j]? = some e → (ρ[j]? = some e ∧ (σ ++ [some (V.ref q)])[j]? = σ[j]?) ∨ (j = ρ.length ∧ e = .ow [] ∧ (σ ++ [some (V.ref q)])[j]? = some (some (.ref q))) := fun {j e} h => by
    by_cases lt : j < ρ.length
    · exact .inl ⟨by rw [List.getElem?_append_left lt] at h; exact h, by rw [List.getElem?_append_left (by rw [S.len]; exact lt)]⟩
    · rw [List.getElem?_append_right (by omega)] at h
      have lt2 := (List.getElem?_eq_some_iff.mp h).1
      simp at lt2
      have : j = ρ.length := by omega
      subst this
      rw [Nat.sub_self] at h
      cases h
      exact .inr ⟨rfl, rfl, by rw [List.getElem?_append_right (by rw [S.len]; exact Nat.le_refl _), S.len, Nat.sub_self]; rfl⟩
  exact
  { fh := fun a o h => up (S.fh a o h), bh := fun a o h => up (S.bh a o h), f0 := S.f0, nw := S.nw, len := by rw [List.length_append, List.length_append, S.len]; rfl
    fz := fun j d e => by
      rcases sp e with ⟨h1, h2⟩ | ⟨_, h2, _⟩
      · obtain ⟨v, g1, g2⟩ := S.fz j d h1
        exact ⟨v, h2.trans g1, g2⟩
      · cases h2
    ow := fun j es e => by
      rcases sp e with ⟨h1, h2⟩ | ⟨_, h2, h3⟩
      · obtain ⟨l, vs, g1, g2, g3, g4, g5⟩ := S.ow j es h1
        exact ⟨l, vs, h2.trans g1, g2, g3, up g4, g5⟩
      · cases h2
        exact ⟨q, [], h3, fq, bq, upd_same, .nil⟩
    sep := fun j k es fs hne hj hk => by
      have old : ∀ {j : Nat} {es : List D}, ρ[j]? = some (Ent.ow es) → σ[j]? ≠ some (some (V.ref q)) := fun {j es} h z => by
        obtain ⟨l, vs, g1, g2, g3, g4, g5⟩ := S.ow j es h
        rw [g1] at z
        cases z
        rw [hq] at g4
        cases g4
      rcases sp hj with ⟨h1, h2⟩ | ⟨h1, h2, h3⟩
      · rcases sp hk with ⟨k1, k2⟩ | ⟨k1, k2, k3⟩
        · rw [h2, k2]; exact S.sep j k es fs hne h1 k1
        · rw [h2, k3]; exact old h1
      · rcases sp hk with ⟨k1, k2⟩ | ⟨k1, k2, k3⟩
        · rw [h3, k2]; exact fun z => old k1 z.symm
        · exact absurd (h1.trans k1.symm) hne
    tk := fun j n e => by
      rcases sp e with ⟨h1, h2⟩ | ⟨_, h2, _⟩
      · exact h2.trans (S.tk j n h1)
      · cases h2 }
/-- all own lists behind n are frozen -/
theorem SR.freezeAll : ∀ (rows : List (List D)) (n : Nat) (F : Hp) (ρ : Ro), SR K A T B F0 F H σ ρ → (∀ (k : Nat) r, rows[k]? = some r → ρ[n + k]? = some (.ow r)) → ∃ F', Ex F F' ∧ ∃ ρ', SR K A T B F0 F' H σ ρ' ∧ ρ'.length = ρ.length ∧ (∀ j, j < n → ρ'[j]? = ρ[j]?) ∧ ∀ (k : Nat) r, rows[k]? = some r → ρ'[n + k]? = some (.fz (.lst r))
  | [], n, F, ρ, S, _ => ⟨F, .refl _, ρ, S, rfl, fun _ _ => rfl, fun k r h => by simp at h⟩
  | r :: rows, n, F, ρ, S, h => by
    have h0 := h 0 r rfl
    rw [Nat.add_zero] at h0
    obtain ⟨F1, e1, S1⟩ := S.freeze h0
    obtain ⟨F2, e2, ρ', S2, hl, hb, hr⟩ := SR.freezeAll rows (n + 1) F1 (ρ.set n (.fz (.lst r))) S1 (fun k q hk => by
      rw [List.getElem?_set_ne (by omega), Nat.add_assoc, Nat.add_comm 1 k]
      exact h (k + 1) q hk)
    refine ⟨F2, e1.trans e2, ρ', S2, by rw [hl, List.length_set], fun j hj => ?_, fun k q hk => ?_⟩
    · rw [hb j (by omega), List.getElem?_set_ne (by omega)]
    · cases k with
      | zero =>
        cases hk
        rw [Nat.add_zero, hb n (by omega), List.getElem?_set_self (List.getElem?_eq_some_iff.mp h0).1]
      | succ k =>
        have := hr k q hk
        rw [Nat.add_assoc, Nat.add_comm 1 k] at this
        exact this
end
abbrev vsOf (ls : List Addr) : L2.St := ls.map fun l => some (V.ref l)
abbrev rowsV (rows : List (List D)) : Ro := rows.map Ent.ow
/-- a list of own lists at p, named by the slot iw -/
structure NV (K : PySem.W.Frag) (x : Fx) (F H : Hp) (σ : L2.St) (ρ : Ro) (iw : Nat) (p : Addr) (ls : List Addr) (rows : List (List D)) : Prop where
  s : SR K x.A x.T (upd x.B p (.lst (ls.map V.ref))) x.F0 F H (σ ++ vsOf ls) (ρ ++ rowsV rows)
  hi : σ[iw]? = some (some (.ref p))
  ui : ρ[iw]? = some .un
  bp : x.B p = none
  fp : x.F0 p = none
  ll : ls.length = rows.length
section
variable {K : PySem.W.Frag} {x : Fx} {F F' H H' : Hp} {σ : L2.St} {ρ : Ro} {iw : Nat} {p : Addr} {ls : List Addr} {rows : List (List D)}
theorem SR.lessB {A : Ad} {T : Nat → V} {B B' F0 : Hp} (S : SR K A T B' F0 F H σ ρ) (e : Ex B B') : SR K A T B F0 F H σ ρ :=
  { fh := S.fh, bh := e.trans S.bh, f0 := S.f0, nw := fun a o h => S.nw a o (e a o h), len := S.len, fz := S.fz, sep := S.sep, tk := S.tk
    ow := fun j es h => by
      obtain ⟨l, vs, g1, g2, g3, g4, g5⟩ := S.ow j es h
      refine ⟨l, vs, g1, g2, ?_, g4, g5⟩
      cases q : B l with
      | none => rfl
      | some o => rw [e l o q] at g3; cases g3 }
theorem NV.len (N : NV K x F H σ ρ iw p ls rows) : (vsOf ls).length = (rowsV rows).length := by rw [List.length_map, List.length_map, N.ll]
theorem NV.sl (N : NV K x F H σ ρ iw p ls rows) : σ.length = ρ.length := by
  have := N.s.len
  rw [List.length_append, List.length_append, N.len] at this
  omega
theorem NV.pre (N : NV K x F H σ ρ iw p ls rows) : SR K x.A x.T x.B x.F0 F H σ ρ := (N.s.pre N.len).lessB (.new N.bp)
theorem NV.grow (N : NV K x F H σ ρ iw p ls rows) (G : Grow F H F' H') : NV K x F' H' σ ρ iw p ls rows := { N with s := N.s.grow G }
theorem NV.setF (N : NV K x F H σ ρ iw p ls rows) {i : Nat} {v : V} {d : D} (r : Rep K x.A F v d) (hi : i < ρ.length) (hn : i ≠ iw) : NV K x F H (σ.set i (some v)) (ρ.set i (.fz d)) iw p ls rows where
  s := by
    have := N.s.setF (i := i) r
    rw [List.set_append_left _ _ (by rw [N.sl]; exact hi), List.set_append_left _ _ hi] at this
    exact this
  hi := by rw [List.getElem?_set_ne hn]; exact N.hi
  ui := by rw [List.getElem?_set_ne hn]; exact N.ui
  bp := N.bp
  fp := N.fp
  ll := N.ll
theorem NV.row (N : NV K x F H σ ρ iw p ls rows) {k : Nat} {r : List D} (h : rows[k]? = some r) : ∃ l vs, ls[k]? = some l ∧ H l = some (.lst vs) ∧ RepL K x.A F vs r ∧ l ≠ p := by
  have hk : (ρ ++ rowsV rows)[ρ.length + k]? = some (.ow r) := by rw [List.getElem?_append_right (by omega), Nat.add_sub_cancel_left, List.getElem?_map, h]; rfl
  obtain ⟨l, vs, g1, g2, g3, g4, g5⟩ := N.s.ow _ _ hk
  rw [List.getElem?_append_right (by rw [N.sl]; omega), N.sl, Nat.add_sub_cancel_left, List.getElem?_map] at g1
  cases e : ls[k]? with
  | none => rw [e] at g1; cases g1
  | some l' =>
    rw [e] at g1
    cases g1
    exact ⟨_, vs, rfl, g4, g5, fun z => by rw [z, upd_same] at g3; cases g3⟩
theorem NV.write (N : NV K x F H σ ρ iw p ls rows) {k : Nat} {r es : List D} {l : Addr} {ws : List V} (h : rows[k]? = some r) (hl : ls[k]? = some l) (rw_ : RepL K x.A F ws es) : NV K x F (upd H l (.lst ws)) σ ρ iw p ls (rows.set k es) where
  s := by
    have hk : (ρ ++ rowsV rows)[ρ.length + k]? = some (.ow r) := by rw [List.getElem?_append_right (by omega), Nat.add_sub_cancel_left, List.getElem?_map, h]; rfl
    have hs : (σ ++ vsOf ls)[ρ.length + k]? = some (some (.ref l)) := by rw [List.getElem?_append_right (by rw [N.sl]; omega), N.sl, Nat.add_sub_cancel_left, List.getElem?_map, hl]; rfl
    have := N.s.write hk hs rw_
    rw [List.set_append_right _ _ (by omega), Nat.add_sub_cancel_left, ← List.map_set] at this
    exact this
  hi := N.hi
  ui := N.ui
  bp := N.bp
  fp := N.fp
  ll := by rw [List.length_set]; exact N.ll
theorem repL_refs {A : Ad} {F : Hp} : ∀ (ls : List Addr) (rows : List (List D)), ls.length = rows.length → (∀ (k : Nat) l r, ls[k]? = some l → rows[k]? = some r → Rep K A F (.ref l) (.lst r)) → RepL K A F (ls.map V.ref) (rows.map D.lst)
  | [], [], _, _ => .nil
  | l :: ls, r :: rows, h, f => .cons (f 0 l r rfl rfl) (repL_refs ls rows (by simpa using h) fun k l' r' h1 h2 => f (k + 1) l' r' h1 h2)
theorem NV.finish (N : NV K x F H σ ρ iw p ls rows) : ∃ F', Ex F F' ∧ SR K x.A x.T x.B x.F0 F' H σ (ρ.set iw (.fz (.lst (rows.map D.lst)))) := by
  obtain ⟨F1, e1, ρ', S1, hl, hb, hr⟩ := SR.freezeAll rows ρ.length F (ρ ++ rowsV rows) N.s fun k r h => by rw [List.getElem?_append_right (by omega), Nat.add_sub_cancel_left, List.getElem?_map, h]; rfl
  have hlw : iw < ρ.length := (List.getElem?_eq_some_iff.mp N.ui).1
  have f1p : F1 p = none := (S1.nw p _ upd_same).trans N.fp
  have hp : H p = some (.lst (ls.map V.ref)) := S1.bh p _ upd_same
  have rr : RepL K x.A F1 (ls.map V.ref) (rows.map D.lst) := repL_refs ls rows N.ll fun k l r h1 h2 => by
    obtain ⟨v, g1, g2⟩ := S1.fz _ _ (hr k r h2)
    rw [List.getElem?_append_right (by rw [N.sl]; omega), N.sl, Nat.add_sub_cancel_left, List.getElem?_map, h1] at g1
    cases g1
    exact g2
  have eB : Ex x.B (upd x.B p (.lst (ls.map V.ref))) := .new N.bp
  have e2 : Ex F1 (upd F1 p (.lst (ls.map V.ref))) := .new f1p
  -- the frame's own slots
  have old : ∀ {j : Nat} {e : Ent}, ρ[j]? = some e → ρ'[j]? = some e ∧ (σ ++ vsOf ls)[j]? = σ[j]? := fun {j e} h => by
    have lt := (List.getElem?_eq_some_iff.mp h).1
    exact ⟨by rw [hb j lt, List.getElem?_append_left lt]; exact h, List.getElem?_append_left (by rw [N.sl]; exact lt)⟩
  refine ⟨upd F1 p (.lst (ls.map V.ref)), e1.trans e2, ?_⟩
  exact
  { fh := fun a o h => by
      by_cases q : a = p
      · subst q; rw [upd_same] at h; rw [← h]; exact hp
      · rw [upd_ne q] at h; exact S1.fh a o h
    bh := eB.trans S1.bh
    f0 := S1.f0.trans e2
    nw := fun a o h => by
      rw [upd_ne (ne_of_none h N.bp)]
      exact S1.nw a o (eB a o h)
    len := by rw [List.length_set]; exact N.sl
    fz := fun j d h => by
      rcases set_get h with ⟨rfl, q⟩ | ⟨q, h'⟩
      · cases q
        exact ⟨_, N.hi, .lst upd_same (rr.mono e2)⟩
      · obtain ⟨v, g1, g2⟩ := S1.fz j d (old h').1
        exact ⟨v, (old h').2 ▸ g1, g2.mono e2⟩
    ow := fun j es h => by
      rcases set_get h with ⟨rfl, q⟩ | ⟨q, h'⟩
      · cases q
      · obtain ⟨l, vs, g1, g2, g3, g4, g5⟩ := S1.ow j es (old h').1
        have hne : l ≠ p := fun z => by rw [z, upd_same] at g3; cases g3
        refine ⟨l, vs, (old h').2 ▸ g1, by rw [upd_ne hne]; exact g2, ?_, g4, g5.mono e2⟩
        rw [upd_ne hne] at g3; exact g3
    sep := fun j k es fs hne hj hk => by
      rcases set_get hj with ⟨rfl, q⟩ | ⟨q, hj'⟩
      · cases q
      · rcases set_get hk with ⟨rfl, q2⟩ | ⟨q2, hk'⟩
        · cases q2
        · have := S1.sep j k es fs hne (old hj').1 (old hk').1
          rw [(old hj').2, (old hk').2] at this
          exact this
    tk := fun j n h => by
      rcases set_get h with ⟨rfl, q⟩ | ⟨q, h'⟩
      · cases q
      · exact (old h').2 ▸ S1.tk j n (old h').1 }
end
end Tw
/-! TwU: xs = [[] for y in ys]; for n in range(len(ys)): for o in ys[n]: xs[o].append(n). -/
namespace Tw
open PySem PySem.Spec PyProof.Rows L2
section
variable {K : PySem.W.Frag} {A : Ad} {T : Nat → V} {B F0 F F' H H' : Hp} {σ : L2.St} {ρ : Ro} {i : Nat}
/-- a slot of which nothing is known -/
theorem SR.setU (S : SR K A T B F0 F H σ ρ) {o : Option V} : SR K A T B F0 F H (σ.set i o) (ρ.set i .un) := by
  have old : ∀ {j : Nat} {e : Ent}, (ρ.set i .un)[j]? = some e → e ≠ .un → ρ[j]? = some e ∧ (σ.set i o)[j]? = σ[j]? := fun {j e} h hne => by
    rcases set_get h with ⟨rfl, q⟩ | ⟨q, h'⟩
    · exact absurd q.symm (fun z => hne z.symm)
    · exact ⟨h', by rw [List.getElem?_set_ne (Ne.symm q)]⟩
  exact
  { fh := S.fh, bh := S.bh, f0 := S.f0, nw := S.nw, len := by rw [List.length_set, List.length_set, S.len]
    fz := fun j d e => by
      obtain ⟨h1, h2⟩ := old e (fun z => nomatch z)
      obtain ⟨v, g1, g2⟩ := S.fz j d h1
      exact ⟨v, h2.trans g1, g2⟩
    ow := fun j es e => by
      obtain ⟨h1, h2⟩ := old e (fun z => nomatch z)
      obtain ⟨l, vs, g1, g2⟩ := S.ow j es h1
      exact ⟨l, vs, h2.trans g1, g2⟩
    sep := fun j k es fs hne hj hk => by
      obtain ⟨h1, h2⟩ := old hj (fun z => nomatch z)
      obtain ⟨k1, k2⟩ := old hk (fun z => nomatch z)
      rw [h2, k2]
      exact S.sep j k es fs hne h1 k1
    tk := fun j n e => by
      obtain ⟨h1, h2⟩ := old e (fun z => nomatch z)
      exact h2.trans (S.tk j n h1) }
theorem SR.moreB {p : Addr} {o : HO} (S : SR K A T B F0 F H σ ρ) (hF : F p = none) (h0 : F0 p = none) (hH : H p = some o) (hn : ∀ (j : Nat) es, ρ[j]? = some (.ow es) → σ[j]? ≠ some (some (.ref p))) : SR K A T (upd B p o) F0 F H σ ρ :=
  { fh := S.fh, f0 := S.f0, len := S.len, fz := S.fz, sep := S.sep, tk := S.tk
    bh := fun a u h => by
      by_cases q : a = p
      · subst q; rw [upd_same] at h; rw [← h]; exact hH
      · rw [upd_ne q] at h; exact S.bh a u h
    nw := fun a u h => by
      by_cases q : a = p
      · subst q; rw [hF, h0]
      · rw [upd_ne q] at h; exact S.nw a u h
    ow := fun j es h => by
      obtain ⟨l, vs, g1, g2, g3, g4, g5⟩ := S.ow j es h
      refine ⟨l, vs, g1, g2, ?_, g4, g5⟩
      rw [upd_ne]
      · exact g3
      · intro z
        subst z
        exact hn j es h g1 }
end
def nApp (rows : List (List D)) (j : Nat) (d : D) : Option (List (List D)) := match rows[j]? with
  | some r => if r.length < 1000000 then some (rows.set j (r ++ [d])) else none
  | none => none
def nRow (s : Nat) : List D → List (List D) → Option (List (List D))
  | [], rows => some rows
  | d :: ds, rows => match d with
    | .int i => if 0 ≤ i then (nApp rows i.toNat (.int (s : Int))).bind (nRow s ds) else none
    | _ => none
def nGo : List D → Nat → List (List D) → Option (List (List D))
  | [], _, rows => some rows
  | d :: ds, s, rows => match d with
    | .lst items => (nRow s items rows).bind (nGo ds (s + 1))
    | _ => none
def sNest (iw ia inn io : Nat) : Ro → Option Fl := fun ρ => match ρ[ia]? with
  | some (.fz (.lst ds)) => if (decide (iw < ρ.length) && (decide (inn < ρ.length) && decide (io < ρ.length)) && (decide (iw ≠ ia) && (decide (iw ≠ inn) && (decide (iw ≠ io) && (decide (inn ≠ io) && (decide (inn ≠ ia) && decide (io ≠ ia)))))) && decide (ds.length < 1000000)) = true then
      (nGo ds 0 (ds.map fun _ => [])).map fun rows => .nx (((ρ.set inn .un).set io .un).set iw (.fz (.lst (rows.map D.lst)))) else none
  | _ => none
section
variable {X : Cx} {x : Fx}
theorem nest_lc {iw ia j : Nat} {vs : List Nat} (hj : ∀ k ∈ [j], k ∈ vs) {E : Ends} {σ : L2.St} {H F : Hp} {ρ : Ro} {ds : List D} (S : SR X.K x.A x.T x.B x.F0 F H σ ρ) (ha : ρ[ia]? = some (.fz (.lst ds))) (hw : iw < ρ.length) (hz : ds.length < 1000000)
    (k : ∀ F' H' p ls, Ex F F' → NV X.K x F' H' (σ.set iw (some (.ref p))) (ρ.set iw .un) iw p ls (ds.map fun _ => []) → E.nx (σ.set iw (some (.ref p))) H') :
    tAsg (tLc (tI X.K x (iOf (eVar ia))) (tG X.K x.nox [j] (gN j)) (tT X.K x.nox bYes) (tLst tNil) vs) (gName iw) E σ H := by
  refine ⟨F, ρ, .ok ds, S, ?_, fun F1 H1 J Gq G1 eG lG hi => ?_⟩
  · unfold iOf eVar
    rw [ha]; rfl
  intro Dl hD
  have S1 := S.grow G1
  have D1 : F1 Dl = none := S1.fh.free hD
  have DB : x.B Dl = none := S1.bh.free hD
  have D0 : x.F0 Dl = none := S1.f0.free D1
  have hn : ∀ (j : Nat) es, ρ[j]? = some (.ow es) → σ[j]? ≠ some (some (.ref Dl)) := fun j es hj z => by
    obtain ⟨l, vs', q1, _, _, q4, _⟩ := S1.ow j es hj
    rw [q1] at z
    cases z
    rw [hD] at q4
    cases q4
  have hsl : σ.length = ρ.length := S.len
  -- no own list is the new one
  have noD : ∀ (ls : List Addr), Dl ∉ ls → ∀ (j : Nat) es, (ρ ++ rowsV (ls.map fun _ => []))[j]? = some (.ow es) → (σ ++ vsOf ls)[j]? ≠ some (some (.ref Dl)) := fun ls hls j es h z => by
    by_cases lt : j < ρ.length
    · rw [List.getElem?_append_left lt] at h
      rw [List.getElem?_append_left (by omega)] at z
      exact hn j es h z
    · rw [List.getElem?_append_right (by omega), List.getElem?_map] at z
      cases e : ls[j - σ.length]? with
      | none => rw [e] at z; cases z
      | some l =>
        rw [e] at z
        cases z
        exact hls (List.mem_of_getElem? e)
  let Iv : Nat → Hp → Prop := fun i H2 => ∃ F2 ls, ls.length = i ∧ i ≤ ds.length ∧ Ex F1 F2 ∧ SR X.K x.A x.T x.B x.F0 F2 H2 (σ ++ vsOf ls) (ρ ++ rowsV (ls.map fun _ => [])) ∧ F2 Dl = none ∧ H2 Dl = some (.lst (ls.map V.ref)) ∧ Dl ∉ ls
  refine ⟨fun i m H2 => m = ds.length - i ∧ Iv i H2, ⟨ds.length, rfl, F1, [], rfl, Nat.zero_le _, .refl _, ?_, D1, upd_same, List.not_mem_nil⟩, ?_⟩
  · show SR _ _ _ _ _ _ _ (σ ++ []) (ρ ++ [])
    rw [List.append_nil, List.append_nil]
    exact S1.other D1 DB hn
  rintro i m H2 ⟨rfl, F2, ls, hl, hle, e2, S2, D2, hH, hls⟩
  have Sp : SR X.K x.A x.T x.B x.F0 F2 H2 σ ρ := S2.pre (by simp)
  cases ed : ds[i]? with
  | none =>
    have hlen : ds.length ≤ i := List.getElem?_eq_none_iff.mp ed
    refine .inl ⟨hi.stop i H2 (e2.trans S2.fh) (eG.trans S2.bh) hlen, ?_⟩
    have he : ls.length = ds.length := by omega
    refine k F2 H2 Dl ls (G1.f.trans e2) ?_
    have hrows : (ls.map fun _ => ([] : List D)) = ds.map fun _ => [] := by
      rw [List.map_const', List.map_const', he]
    refine ⟨?_, by rw [List.getElem?_set_self (by omega)], by rw [List.getElem?_set_self hw], DB, D0, by rw [List.length_map]; exact he⟩
    rw [hrows] at S2
    have := (S2.moreB D2 D0 hH (by rw [← hrows]; exact noD ls hls)).setU (i := iw) (o := some (.ref Dl))
    rw [List.set_append_left _ _ (by omega), List.set_append_left _ _ hw] at this
    exact this
  | some d =>
    have hlt : i < ds.length := (List.getElem?_eq_some_iff.mp ed).1
    refine .inr ⟨hi.go i d H2 (e2.trans S2.fh) (eG.trans S2.bh) ed, fun H3 => Iv (i + 1) H3, fun H' n => ⟨ds.length - (i + 1), by omega, rfl, n⟩, fun v H3 hyl => ?_⟩
    obtain ⟨F3, G3, rv⟩ := hi.yld i d F2 H2 v H3 e2 S2.fh (eG.trans S2.bh) ed hyl
    have S3 := S2.grow G3
    have D3 : F3 Dl = none := (G3.n Dl _ hH).trans D2
    have hH3 := G3.h _ _ hH
    refine ⟨F3, _, d, _, (Sp.grow G3).wipe vs, rv, rfl, fun σ4 S4 l4 k4 => ⟨wipe_back l4 k4 hj, ?_⟩⟩
    refine ⟨F3, _, .ok true, S4, rfl, fun F5 H5 G5 => ?_⟩
    have S5 := S3.grow G5
    have D5 : F5 Dl = none := (G5.n Dl _ hH3).trans D3
    have hH5 := G5.h _ _ hH3
    refine iteT ?_
    refine ⟨Nat.zero_le _, fun q hq => ?_⟩
    have hqD : q ≠ Dl := fun z => by rw [z, hH5] at hq; cases hq
    have S6 := S5.addV hq
    have hH6 : upd H5 q (.lst []) Dl = some (.lst (ls.map V.ref)) := by rw [upd_ne (Ne.symm hqD)]; exact hH5
    refine ⟨ls.map V.ref, hH6, by rw [List.length_map]; have := sizeLine_eq; omega, F5, ls ++ [q], by rw [List.length_append, hl]; rfl, by omega, (e2.trans G3.f).trans G5.f, ?_, D5, by rw [upd_same, List.map_append]; rfl, ?_⟩
    · have eσ : σ ++ vsOf (ls ++ [q]) = σ ++ vsOf ls ++ [some (.ref q)] := by
        simp [vsOf]
      have eρ : ρ ++ rowsV ((ls ++ [q]).map fun _ => []) = ρ ++ rowsV (ls.map fun _ => []) ++ [.ow []] := by
        simp [rowsV]
      have no6 := noD (ls ++ [q]) (fun z => by
        rcases List.mem_append.mp z with y | y
        · exact hls y
        · exact hqD (List.mem_singleton.mp y).symm)
      rw [eσ, eρ] at no6 ⊢
      exact S6.other D5 DB no6
    · intro z
      rcases List.mem_append.mp z with y | y
      · exact hls y
      · exact hqD (List.mem_singleton.mp y).symm
def sameBut (inn io : Nat) (ρ ρ' : Ro) : Prop := ρ'.length = ρ.length ∧ ∀ j, j ≠ inn → j ≠ io → ρ'[j]? = ρ[j]?
theorem sameBut.set {inn io i : Nat} {ρ ρ' : Ro} {e : Ent} (h : sameBut inn io ρ ρ') (hi : i = inn ∨ i = io) : sameBut inn io ρ (ρ'.set i e) :=
  ⟨by rw [List.length_set]; exact h.1, fun j h1 h2 => by
    rw [List.getElem?_set_ne (by rcases hi with rfl | rfl; exact Ne.symm h1; exact Ne.symm h2)]
    exact h.2 j h1 h2⟩
theorem rep_int_v {K : PySem.W.Frag} {A : Ad} {H : Hp} {v : V} {i : Int} (r : Rep K A H v (.int i)) : v = .int i := by cases r; rfl
theorem nest_for {iw ia inn io : Nat} (h1 : inn ≠ iw) (h2 : io ≠ iw) (h3 : inn ≠ io) (h4 : inn ≠ ia) (h5 : io ≠ ia) {E : Ends} {σ : L2.St} {H F : Hp} {ρ : Ro} {ds : List D} {p : Addr} {ls : List Addr} {rows fin : List (List D)} (N : NV X.K x F H σ ρ iw p ls rows) (ha : ρ[ia]? = some (.fz (.lst ds))) (hn : inn < ρ.length) (ho : io < ρ.length) (hz : ds.length < 1000000)
    (hg : nGo ds 0 rows = some fin) (k : ∀ F' H' σ' ρ', Ex F F' → NV X.K x F' H' σ' ρ' iw p ls fin → sameBut inn io ρ ρ' → E.nx σ' H') :
    tFor (tI X.K x (iRg dRng1 (aCons (eCall dLen (aCons (eVarB ia) aNil)) aNil))) (gName inn) (tFor (tI X.K x (iOf (eOp dIx (eVarB ia) (eVarB inn)))) (gName io) (tDrop (tBM X.K "list" rAppend (tOp (rIxL X.K) (tVar iw) (tVar io)) (tCons (tVar inn) tNil)))) E σ H := by
  have er : iRg dRng1 (aCons (eCall dLen (aCons (eVarB ia) aNil)) aNil) ρ = some (.ok ((List.range ds.length).map fun (i : Nat) => .int (i : Int))) := by
    have e0 : eVarB ia ρ = some (.ok (.lst ds)) := by unfold eVarB; rw [ha]; rfl
    have e1 : eCall dLen (aCons (eVarB ia) aNil) ρ = some (.ok (.int ds.length)) := by
      show bnd (bnd (eVarB ia ρ) fun d => bnd (ok []) fun ds => ok (d :: ds)) dLen = _
      rw [e0]; rfl
    have e2 : dRng1 [.int (ds.length : Int)] = some (.ok ((List.range ds.length).map fun (i : Nat) => .int (i : Int))) := by
      unfold dRng1
      dsimp only
      rw [if_pos ⟨by omega, by omega⟩, Int.toNat_natCast]
      rfl
    show bnd (bnd (eCall dLen (aCons (eVarB ia) aNil) ρ) fun d => bnd (ok []) fun ds => ok (d :: ds)) dRng1 = _
    rw [e1, bnd_ok, show (ok ([] : List D) : EM (List D)) = some (.ok []) from rfl, bnd_ok, show (ok [D.int (ds.length : Int)] : EM (List D)) = some (.ok [D.int (ds.length : Int)]) from rfl, bnd_ok]
    exact e2
  refine ⟨F, ρ, .ok _, N.pre, er, fun F1 H1 J Gq G1 eG lG hi => ?_⟩
  refine ⟨fun i m σ' H' => m = ds.length - i ∧ i ≤ ds.length ∧ ∃ F' ρ' rows', Ex F1 F' ∧ NV X.K x F' H' σ' ρ' iw p ls rows' ∧ sameBut inn io ρ ρ' ∧ nGo (ds.drop i) i rows' = some fin, ⟨ds.length, rfl, Nat.zero_le _, F1, ρ, rows, .refl _, N.grow G1, ⟨rfl, fun _ _ _ => rfl⟩, hg⟩, ?_⟩
  rintro i m σ2 H2 ⟨rfl, hle, F2, ρ2, rows2, e2, N2, sb2, g2⟩
  by_cases hlt : i < ds.length
  · have edr : ((List.range ds.length).map fun (i : Nat) => D.int (i : Int))[i]? = some (.int (i : Int)) := by rw [List.getElem?_map, List.getElem?_range hlt]; rfl
    have hd : ds.drop i = ds[i] :: ds.drop (i + 1) := List.drop_eq_getElem_cons hlt
    rw [hd] at g2
    refine .inr ⟨hi.go i _ H2 (e2.trans N2.pre.fh) (eG.trans N2.pre.bh) edr, fun σ' H' => i + 1 ≤ ds.length ∧ ∃ F' ρ' rows', Ex F1 F' ∧ NV X.K x F' H' σ' ρ' iw p ls rows' ∧ sameBut inn io ρ ρ' ∧ nGo (ds.drop (i + 1)) (i + 1) rows' = some fin, fun σ' H' ⟨q1, q2⟩ => ⟨ds.length - (i + 1), by omega, rfl, q1, q2⟩, fun v H3 hy => ?_⟩
    obtain ⟨F3, G3, rv⟩ := hi.yld i _ F2 H2 v H3 e2 N2.pre.fh (eG.trans N2.pre.bh) edr hy
    have N3 := (N2.grow G3).setF (i := inn) rv (by rw [sb2.1]; exact hn) h1
    have sb3 := sb2.set (i := inn) (e := .fz (.int (i : Int))) (.inl rfl)
    have hlen3 : (ρ2.set inn (.fz (.int (i : Int)))).length = ρ.length := sb3.1
    have ha3 : (ρ2.set inn (.fz (.int (i : Int))))[ia]? = some (.fz (.lst ds)) := by rw [sb3.2 ia (Ne.symm h4) (Ne.symm h5)]; exact ha
    have hn3 : (ρ2.set inn (.fz (.int (i : Int))))[inn]? = some (.fz (.int (i : Int))) := List.getElem?_set_self (by rw [sb2.1]; exact hn)
    unfold nGo at g2
    cases hdi : ds[i] with
    | lst items =>
      rw [hdi] at g2
      dsimp only at g2
      cases hr : nRow i items rows2 with
      | none => rw [hr] at g2; cases g2
      | some rows3 =>
        rw [hr] at g2
        have g3 : nGo (ds.drop (i + 1)) (i + 1) rows3 = some fin := g2
        have ei : iOf (eOp dIx (eVarB ia) (eVarB inn)) (ρ2.set inn (.fz (.int (i : Int)))) = some (.ok items) := by
          unfold iOf eOp eVarB
          rw [ha3, hn3]
          show bnd ((atI ds (i : Int)).map Except.ok) dIt = _
          have : atI ds (i : Int) = some (.lst items) := by
            unfold atI ixN
            rw [if_pos (by omega), if_pos (by omega)]
            show ds[(i : Int).toNat]? = _
            rw [Int.toNat_natCast, List.getElem?_eq_getElem hlt, hdi]
          rw [this]; rfl
        refine ⟨F3, _, .ok items, N3.pre, ei, fun F4 H4 J4 Gq4 G4 eG4 lG4 hi4 => ?_⟩
        refine ⟨fun j m σ' H' => m = items.length - j ∧ ∃ F' ρ' rows', Ex F4 F' ∧ NV X.K x F' H' σ' ρ' iw p ls rows' ∧ sameBut inn io ρ ρ' ∧ ρ'[inn]? = some (.fz (.int (i : Int))) ∧ nRow i (items.drop j) rows' = some rows3, ⟨items.length, rfl, F4, _, rows2, .refl _, N3.grow G4, sb3, hn3, hr⟩, ?_⟩
        rintro j m σ5 H5 ⟨rfl, F5, ρ5, rows5, e5, N5, sb5, hn5, r5⟩
        cases ej : items[j]? with
        | none =>
          have hl : items.length ≤ j := List.getElem?_eq_none_iff.mp ej
          rw [List.drop_eq_nil_of_le hl] at r5
          cases (Option.some.inj r5)
          exact .inl ⟨hi4.stop j H5 (e5.trans N5.pre.fh) (eG4.trans N5.pre.bh) hl, by omega, F5, ρ5, rows3, ((e2.trans G3.f).trans G4.f).trans e5, N5, sb5, g3⟩
        | some d =>
          have hlj : j < items.length := (List.getElem?_eq_some_iff.mp ej).1
          have hdj : items.drop j = d :: items.drop (j + 1) := by
            rw [List.drop_eq_getElem_cons hlj, (List.getElem?_eq_some_iff.mp ej).2]
          rw [hdj] at r5
          refine .inr ⟨hi4.go j d H5 (e5.trans N5.pre.fh) (eG4.trans N5.pre.bh) ej, fun σ' H' => ∃ F' ρ' rows', Ex F4 F' ∧ NV X.K x F' H' σ' ρ' iw p ls rows' ∧ sameBut inn io ρ ρ' ∧ ρ'[inn]? = some (.fz (.int (i : Int))) ∧ nRow i (items.drop (j + 1)) rows' = some rows3, fun σ' H' q => ⟨items.length - (j + 1), by omega, rfl, q⟩, fun u H6 hyj => ?_⟩
          obtain ⟨F6, G6, ru⟩ := hi4.yld j d F5 H5 u H6 e5 N5.pre.fh (eG4.trans N5.pre.bh) ej hyj
          unfold nRow at r5
          cases d with
          | int q =>
            dsimp only at r5
            split at r5
            · rename_i hq
              obtain rfl := rep_int_v ru
              have N6 := (N5.grow G6).setF (i := io) ru (by rw [sb5.1]; exact ho) h2
              have sb6 := sb5.set (i := io) (e := .fz (.int q)) (.inr rfl)
              have hn6 : (ρ5.set io (.fz (.int q)))[inn]? = some (.fz (.int (i : Int))) := by rw [List.getElem?_set_ne (Ne.symm h3)]; exact hn5
              have ho6 : (ρ5.set io (.fz (.int q)))[io]? = some (.fz (.int q)) := List.getElem?_set_self (by rw [sb5.1]; exact ho)
              unfold nApp at r5
              cases hrow : rows5[q.toNat]? with
              | none => rw [hrow] at r5; cases r5
              | some r =>
                rw [hrow] at r5
                dsimp only at r5
                split at r5
                · rename_i hsz
                  obtain ⟨l, ws, hl, hHl, rl, _⟩ := N6.row hrow
                  obtain ⟨vi, g1, g2'⟩ := N6.pre.fz _ _ hn6
                  obtain rfl := rep_int_v g2'
                  obtain ⟨vo, o1, o2⟩ := N6.pre.fz _ _ ho6
                  obtain rfl := rep_int_v o2
                  have hat : atI (ls.map V.ref) q = some (.ref l) := by
                    have hlq : q.toNat < ls.length := (List.getElem?_eq_some_iff.mp hl).1
                    unfold atI ixN
                    rw [if_pos hq, if_pos (by rw [List.length_map]; omega)]
                    show (ls.map V.ref)[q.toNat]? = _
                    rw [List.getElem?_map, hl]; rfl
                  refine ⟨.ref p, N6.hi, .int q, o1, p, ls.map V.ref, q, .ref l, rfl, rfl, .inl (.of (N6.s.bh p _ upd_same)), hat, .inl ⟨rfl, ws, .inl (.of hHl)⟩, .int (i : Int), g1, l, ws, .int (i : Int), rfl, rfl, hHl, by rw [rl.length]; have := sizeLine_eq; omega, ?_⟩
                  exact ⟨F6, _, _, e5.trans G6.f, N6.write hrow hl (rl.app (.one (.int _))), sb6, hn6, r5⟩
                · cases r5
            · cases r5
          | _ => cases r5
    | _ => rw [hdi] at g2; cases g2
  · have hge : ds.length ≤ i := by omega
    rw [List.drop_eq_nil_of_le hge] at g2
    cases (Option.some.inj g2)
    exact .inl ⟨hi.stop i H2 (e2.trans N2.pre.fh) (eG.trans N2.pre.bh) (by rw [List.length_map, List.length_range]; exact hge), k F2 H2 σ2 ρ2 (G1.f.trans e2) N2 sb2⟩
theorem pks_nest {st1 st2 : Stmt} {rest : List Stmt} {iw ia inn io j : Nat} {vs : List Nat} {g : Ro → Option Fl} (hj : ∀ k ∈ [j], k ∈ vs) (h1 : PS X st1 (tAsg (tLc (tI X.K x (iOf (eVar ia))) (tG X.K x.nox [j] (gN j)) (tT X.K x.nox bYes) (tLst tNil) vs) (gName iw)))
    (h2 : PS X st2 (tFor (tI X.K x (iRg dRng1 (aCons (eCall dLen (aCons (eVarB ia) aNil)) aNil))) (gName inn) (tFor (tI X.K x (iOf (eOp dIx (eVarB ia) (eVarB inn)))) (gName io) (tDrop (tBM X.K "list" rAppend (tOp (rIxL X.K) (tVar iw) (tVar io)) (tCons (tVar inn) tNil))))))
    (h3 : PSs X rest (tS X.K x g)) : PSs X (st1 :: st2 :: rest) (tS X.K x (sSeq (sNest iw ia inn io) g)) :=
  pss_wk (pss_cons h1 (pss_cons h2 h3)) fun E σ H ⟨F, ρ, fl, S, e, w⟩ => by
    unfold sSeq sNest at e
    split at e
    · rename_i ρ' hs
      split at hs
      · rename_i ds ha
        split at hs
        · rename_i hc
          simp only [Bool.and_eq_true, decide_eq_true_eq] at hc
          obtain ⟨⟨⟨c1, c2, c3⟩, c4, c5, c6, c7, c8, c9⟩, c10⟩ := hc
          cases hg : nGo ds 0 (ds.map fun _ => []) with
          | none => rw [hg] at hs; cases hs
          | some fin =>
            rw [hg] at hs
            cases (Option.some.inj hs)
            refine nest_lc hj S ha c1 c10 fun F1 H1 p ls e1 N1 => ?_
            have ha1 : (ρ.set iw .un)[ia]? = some (.fz (.lst ds)) := by rw [List.getElem?_set_ne c4]; exact ha
            refine nest_for (Ne.symm c5) (Ne.symm c6) c7 c8 c9 N1 ha1 (by rw [List.length_set]; exact c2) (by rw [List.length_set]; exact c3) c10 hg fun F2 H2 σ2 ρ2 e2 N2 sb => ?_
            obtain ⟨F3, e3, S3⟩ := N2.finish
            have S4 := (S3.drop (i := inn)).drop (i := io)
            have eq : (((ρ2.set iw (.fz (.lst (fin.map D.lst)))).set inn .un).set io .un) = ((ρ.set inn .un).set io .un).set iw (.fz (.lst (fin.map D.lst))) := by
              have hl2 : ρ2.length = ρ.length := by rw [sb.1, List.length_set]
              apply List.ext_getElem?
              intro t
              by_cases t1 : t = iw
              · subst t1
                rw [List.getElem?_set_ne (Ne.symm c6), List.getElem?_set_ne (Ne.symm c5), List.getElem?_set_self (by omega), List.getElem?_set_self (by rw [List.length_set, List.length_set]; omega)]
              · rw [List.getElem?_set_ne (Ne.symm t1) (l := (ρ.set inn .un).set io .un)]
                by_cases t2 : t = io
                · subst t2
                  rw [List.getElem?_set_self (by rw [List.length_set, List.length_set]; omega), List.getElem?_set_self (by rw [List.length_set]; omega)]
                · rw [List.getElem?_set_ne (Ne.symm t2), List.getElem?_set_ne (Ne.symm t2)]
                  by_cases t3 : t = inn
                  · subst t3
                    rw [List.getElem?_set_self (by rw [List.length_set]; omega), List.getElem?_set_self (by omega)]
                  · rw [List.getElem?_set_ne (Ne.symm t3), List.getElem?_set_ne (Ne.symm t3), List.getElem?_set_ne (Ne.symm t1), sb.2 t t3 t2, List.getElem?_set_ne (Ne.symm t1)]
            rw [eq] at S4
            exact ⟨F3, _, fl, S4, e, w.mono ((e1.trans e2).trans e3)⟩
        · cases hs
      · cases hs
    · rename_i hno
      split at e
      · rename_i ds ha
        split at e
        · cases hg : nGo ds 0 (ds.map fun _ => []) with
          | none => rw [hg] at e; cases e
          | some fin =>
            exfalso
            rename_i hc
            refine hno (((ρ.set inn .un).set io .un).set iw (.fz (.lst (fin.map D.lst)))) ?_
            rw [ha]
            dsimp only
            rw [if_pos hc, hg]
            rfl
        · cases e
      · cases e
end
/-! ### a list of one's own, lent to an expression with a plain result -/
def scal : D → Bool
  | .non | .bl _ | .int _ | .str _ => true
  | _ => false
def eLend (i : Nat) (f : Ro → EM D) : Ro → EM D := fun ρ => match ρ[i]? with
  | some (.ow ds) => match f (ρ.set i (.fz (.lst ds))) with
    | some (.ok d) => if scal d = true then ok d else none
    | some (.error y) => some (.error y)
    | none => none
  | some (.fz _) => f ρ
  | _ => none
section
variable {X : Cx} {x : Fx} {a : Expr} {f : Ro → EM D} {i : Nat}
theorem rep_scal {K : PySem.W.Frag} {A : Ad} {H H' : Hp} {v : V} {d : D} (r : Rep K A H v d) (h : scal d = true) : Rep K A H' v d := by
  cases r <;> first | exact .non | exact .bl _ | exact .int _ | exact .str _ | cases h
theorem pk_lend (h : PE X a (tK X.K x .fz f)) : PE X a (tK X.K x .fz (eLend i f)) := pe_wk h fun σ H Q ⟨F, ρ, r, S, e, w⟩ => by
  unfold eLend at e
  split at e
  · rename_i ds hi
    obtain ⟨F1, e1, S1⟩ := S.freeze hi
    have back : ∀ {F' H' : Hp}, Grow F1 H F' H' → Grow F H F H' := fun {F' H'} G => ⟨.refl _, G.h, S.fh.trans G.h, fun _ _ _ => rfl⟩
    cases ef : f (ρ.set i (.fz (.lst ds))) with
    | none => rw [ef] at e; cases e
    | some q =>
      rw [ef] at e
      cases q with
      | error y =>
        cases (Option.some.inj e)
        exact ⟨F1, _, .error y, S1, ef, fun F' H' dd G xr => w F H' dd (back G) xr⟩
      | ok d =>
        dsimp only at e
        split at e
        · rename_i hs
          cases (Option.some.inj e)
          exact ⟨F1, _, .ok d, S1, ef, fun F' H' v G rv => w F H' v (back G) (rep_scal rv hs)⟩
        · cases e
  · exact ⟨F, ρ, r, S, e, w⟩
  · cases e
end
end Tw
namespace Tw
open PySem PySem.Spec PyProof.Rows L2
/-! ### xs[i] += e of a list of one's own -/
section
variable {X : Cx} {x : Fx} {a b c : Expr}
def rGetL (K : PySem.W.Frag) : V → V → Hp → VK → Prop := fun o i H Q => ∃ p xs k v, o = .ref p ∧ i = .int k ∧ 0 ≤ k ∧ SqL K H p xs ∧ xs[k.toNat]? = some v ∧ Q v H
theorem get_list : PGet X (rGetL X.K) := by
  intro pins s σ H o i ov iv Q I ro ri h
  obtain ⟨p, xs, k, v, rfl, rfl, hk, hq, hv, q⟩ := h
  cases ro
  obtain ⟨t, rfl⟩ := ri
  obtain ⟨its, r, pl, hz⟩ := I.list hq
  obtain ⟨w, ew, rw'⟩ := r.get hv
  have hlt : k.toNat < xs.length := (List.getElem?_eq_some_iff.mp hv).1
  have hn := line63
  exact wpAny_getItem_list pl.isList hk (by omega) (by simpa using ew) ⟨v, H, I, rw', q⟩
def sAugI (i : Nat) (h : D → D → EM D) (f g : Ro → EM D) : Ro → Option Fl := fun ρ => match ρ[i]? with
  | some (.ow ds) => toS ρ (f ρ) fun j => match j with
    | .int k => if 0 ≤ k then match ds[k.toNat]? with
        | some d => toS ρ (g ρ) fun e => toS ρ (h d e) fun z => some (.nx (ρ.set i (.ow (ds.set k.toNat z))))
        | none => none
      else none
    | _ => none
  | _ => none
theorem pks_augI {i : Nat} {f g : Ro → EM D} {h : D → D → EM D} {r : R2} {st : Stmt} (hr : Op2 X.K x .fz r h) (hn : NoX h) (hst : ∀ to ti te, PE X a to → PE X b ti → PE X c te → PS X st (tAugS to ti te (rGetL X.K) r rSetL)) (ha : PE X a (tVar i)) (hb : PE X b (tK X.K x .bw f)) (hc : PE X c (tK X.K x .bw g)) : PS X st (tS X.K x (sAugI i h f g)) :=
  ps_wk (hst _ _ _ ha hb hc) fun E σ H ⟨F, ρ, fl, S, e, w⟩ => by
    unfold sAugI at e
    split at e
    · rename_i ds hi
      obtain ⟨l, vs, h1, h2, h3, h4, h5⟩ := S.ow i ds hi
      refine ⟨.ref l, h1, ?_⟩
      exact ts_step S e w fun j F1 H1 u G1 S1 r1 e1 w1 => by
        split at e1
        · rename_i k
          split at e1
          · rename_i hk
            split at e1
            · rename_i d hd
              obtain rfl := rk_int r1
              obtain ⟨v, hv, rv⟩ := h5.get hd
              have hlt : k.toNat < vs.length := (List.getElem?_eq_some_iff.mp hv).1
              have hix : ixN vs.length k = some k.toNat := by
                unfold ixN
                rw [if_pos hk, if_pos (by omega)]
              refine ⟨l, vs, k, v, rfl, rfl, hk, .inl (.of (G1.h _ _ h4)), hv, ?_⟩
              exact ts_step S1 e1 w1 fun ee F2 H2 u2 G2 S2 r2 e2 w2 => by
                cases ez : h d ee with
                | none => rw [ez] at e2; cases e2
                | some q =>
                  rw [ez] at e2
                  cases q with
                  | error y => exact absurd ez (hn d ee y)
                  | ok z =>
                    cases (Option.some.inj e2)
                    refine hr F2 H2 σ v u2 d ee z _ S2.fh (.inl ((rv.mono G1.f).mono G2.f)) r2 ez ?_
                    intro F3 H3 v3 G3 r3
                    have S3 := S2.grow G3
                    exact ⟨l, vs, k, k.toNat, rfl, rfl, G3.h _ _ (G2.h _ _ (G1.h _ _ h4)), hix, w2 _ _ _ G3.f (S3.write hi h1 ((((h5.mono G1.f).mono G2.f).mono G3.f).set k.toNat r3))⟩
            · cases e1
          · cases e1
        · cases e1
    · cases e
end
end Tw
/-! TwW: a comprehension whose element may refuse; refusals with a field: made, read, isinstance. -/
namespace Tw
open PySem PySem.Spec PyProof.Rows L2
open L2H (RoomH Hot1 PinOk cxH inv_startH)
def lcE (t : Tg) (p : Ro → EM Bool) (f : Ro → EM D) (ρ : Ro) : List D → EM (List D)
  | [] => ok []
  | d :: ds => match t d ρ with
    | none => none
    | some ρ1 => match p ρ1 with
      | some (.ok true) => match f ρ1 with
        | some (.ok y) => bnd (lcE t p f ρ ds) fun ys => ok (y :: ys)
        | some (.error e) => some (.error e)
        | none => none
      | some (.ok false) => lcE t p f ρ ds
      | _ => none
def lcFin : EM (List D) → EM D
  | some (.ok ys) => ok (.lst ys)
  | some (.error e) => some (.error e)
  | none => none
def eLcE (vs : List Nat) (t : Tg) (fi : Ro → EM (List D)) (p : Ro → EM Bool) (f : Ro → EM D) : Ro → EM D := fun ρ => bnd (fi ρ) fun ds => if ds.length < sizeLine then lcFin (lcE t p f (wipeE ρ vs) ds) else none
def cmbE (a : List D) : Except Xn (List D) → Except Xn (List D)
  | .ok r => .ok (a ++ r)
  | .error e => .error e
section
variable {X : Cx} {x : Fx} {a b c e : Expr} {es : List Expr} {pos p : Pos} {f g : Ro → EM D} {fs : Ro → EM (List D)} {k : Kd}
theorem lcE_rd {K : PySem.W.Frag} {fi : Ro → EM (List D)} {q : Ro → EM Bool} {t : Tg} {sl vs : List Nat} (hK : X.K = K) (hk : k ≠ .bw) (hs : ∀ j ∈ sl, j ∈ vs) (hW : ∀ c d σ σ' H, x.W c d σ H → x.W c d σ' H) {σ : L2.St} {H : Hp} {Q : VK} (h : tK X.K x k (eLcE vs t fi q f) σ H Q) :
    tLc (tI X.K x fi) (tG X.K x.nox sl t) (tT X.K x.nox q) (tK X.K x .fz f) vs σ H Q := by
  obtain ⟨F, ρ, r, S, e, w⟩ := h
  refine tie_step S e w.x fun ds F1 H1 J Gq G1 S1 eG lG hi e1 => ?_
  intro Dl hD
  split at e1
  rotate_left
  · cases e1
  rename_i hz
  cases hy : lcE t q f (wipeE ρ vs) ds with
  | none => rw [hy] at e1; cases e1
  | some r0 =>
    rw [hy] at e1
    have D1 : F1 Dl = none := S1.fh.free hD
    have DB : x.B Dl = none := S1.bh.free hD
    have hn : ∀ (j : Nat) es, ρ[j]? = some (.ow es) → σ[j]? ≠ some (some (.ref Dl)) := fun j es hj z => by
      obtain ⟨l, vs', q1, _, _, q4, _⟩ := S1.ow j es hj
      rw [q1] at z
      cases z
      rw [hD] at q4
      cases q4
    refine ⟨fun i m H2 => m = ds.length - i ∧ ∃ F2 acc accd r2, Grow F1 H1 F2 H2 ∧ SR X.K x.A x.T x.B x.F0 F2 H2 σ ρ ∧ F2 Dl = none ∧ H2 Dl = some (.lst acc) ∧ RepL X.K x.A F2 acc accd ∧ lcE t q f (wipeE ρ vs) (ds.drop i) = some r2 ∧ r0 = cmbE accd r2 ∧ accd.length ≤ i,
      ⟨ds.length, rfl, F1, [], [], r0, Grow.raw S1.fh hD, S1.other D1 DB hn, D1, upd_same, .nil, hy, by cases r0 <;> rfl, Nat.le_refl _⟩, ?_⟩
    rintro i m H2 ⟨rfl, F2, acc, accd, r2, G2, S2, D2, hl, ra, hr, ey, hal⟩
    cases ed : ds[i]? with
    | none =>
      have hlen : ds.length ≤ i := List.getElem?_eq_none_iff.mp ed
      rw [List.drop_eq_nil_of_le hlen] at hr
      cases (Option.some.inj hr)
      have ey' : r0 = .ok accd := by rw [ey]; show Except.ok (accd ++ []) = _; rw [List.append_nil]
      subst ey'
      cases (Option.some.inj e1)
      refine .inl ⟨hi.stop i H2 (G2.f.trans G2.i) (eG.trans S2.bh) hlen, ?_⟩
      have wo : Wd X.K x .ow (.ok (.lst accd)) F H σ Q := by
        cases k with
        | ow => exact w
        | bw => exact absurd rfl hk
        | fz =>
          intro F' H' v G r
          obtain ⟨l, vs', ds', e1', e2', e0', e5', e3', e4'⟩ := r
          subst e1'
          cases e2'
          have ex' : Ex F' (upd F' l (.lst vs')) := .new e5'
          refine w (upd F' l (.lst vs')) H' (.ref l) ⟨G.f.trans ex', G.h, fun c o hc => ?_, fun c o hc => ?_⟩ (Rep.lst upd_same (e4'.mono ex'))
          · by_cases q : c = l
            · subst q; rw [upd_same] at hc; rw [← hc]; exact e3'
            · rw [upd_ne q] at hc; exact G.i c o hc
          · rw [upd_ne (ne_of_none hc e0')]
            exact G.n c o hc
      exact wo F2 H2 (.ref Dl) (G1.trans G2) ⟨Dl, acc, accd, rfl, rfl, G1.h.free hD, D2, hl, ra⟩
    | some d =>
      have hlt : i < ds.length := (List.getElem?_eq_some_iff.mp ed).1
      have hd : ds.drop i = d :: ds.drop (i + 1) := by
        rw [List.drop_eq_getElem_cons hlt, (List.getElem?_eq_some_iff.mp ed).2]
      rw [hd] at hr
      refine .inr ⟨hi.go i d H2 (G2.f.trans G2.i) (eG.trans S2.bh) ed, fun H3 => ∃ F3 acc accd r2, Grow F1 H1 F3 H3 ∧ SR X.K x.A x.T x.B x.F0 F3 H3 σ ρ ∧ F3 Dl = none ∧ H3 Dl = some (.lst acc) ∧ RepL X.K x.A F3 acc accd ∧ lcE t q f (wipeE ρ vs) (ds.drop (i + 1)) = some r2 ∧ r0 = cmbE accd r2 ∧ accd.length ≤ i + 1,
        fun H' n => ⟨ds.length - (i + 1), by omega, rfl, n⟩, fun v H3 hyl => ?_⟩
      obtain ⟨F3, G3, rv⟩ := hi.yld i d F2 H2 v H3 G2.f S2.fh (eG.trans S2.bh) ed hyl
      have S3 := S2.grow G3
      have D3 : F3 Dl = none := (G3.n Dl _ hl).trans D2
      have hl3 := G3.h _ _ hl
      have ra3 := ra.mono G3.f
      unfold lcE at hr
      cases et : t d (wipeE ρ vs) with
      | none => rw [et] at hr; cases hr
      | some ρ1 =>
        rw [et] at hr
        dsimp only at hr
        refine ⟨F3, _, d, ρ1, S3.wipe vs, rv, et, fun σ4 S4 l4 k4 => ⟨wipe_back l4 k4 hs, ?_⟩⟩
        cases eq : q ρ1 with
        | none => rw [eq] at hr; cases hr
        | some bq =>
          rw [eq] at hr
          cases bq with
          | error y => cases hr
          | ok b =>
            refine ⟨F3, ρ1, .ok b, S4, eq, fun F5 H5 G5 => ?_⟩
            have S5 := S4.grow G5
            have D5 : F5 Dl = none := (G5.n Dl _ hl3).trans D3
            have hl5 := G5.h _ _ hl3
            have ra5 := ra3.mono G5.f
            have G15 : Grow F1 H1 F5 H5 := (G2.trans G3).trans G5
            have SS5 := S3.grow G5
            cases b with
            | false =>
              refine iteF ⟨F5, acc, accd, r2, G15, SS5, D5, hl5, ra5, hr, ey, Nat.le_succ_of_le hal⟩
            | true =>
              refine iteT ?_
              dsimp only at hr
              cases ef : f ρ1 with
              | none => rw [ef] at hr; cases hr
              | some rf =>
                rw [ef] at hr
                cases rf with
                | error y =>
                  cases (Option.some.inj hr)
                  subst ey
                  cases (Option.some.inj e1)
                  refine ⟨F5, ρ1, .error y, S5, ef, fun F6 H6 dd G6 xr => hW _ _ σ _ _ ?_⟩
                  exact (w : Wx X.K x F H σ y) F6 H6 dd ((G1.trans G15).trans G6) xr
                | ok y =>
                  refine ⟨F5, ρ1, .ok y, S5, ef, fun F6 H6 u G6 ru => ?_⟩
                  have ru' : Rep X.K x.A F6 u y := ru
                  have D6 : F6 Dl = none := (G6.n Dl _ hl5).trans D5
                  have hl6 := G6.h _ _ hl5
                  have ra6 := ra5.mono G6.f
                  have G16 : Grow F1 H1 F6 H6 := G15.trans G6
                  have SS6 := SS5.grow G6
                  dsimp only at hr
                  cases er : lcE t q f (wipeE ρ vs) (ds.drop (i + 1)) with
                  | none => rw [er] at hr; cases hr
                  | some rest' =>
                    rw [er] at hr
                    have e2 : r2 = (match rest' with | .ok ys => .ok (y :: ys) | .error z => .error z) := by
                      cases rest' <;> exact (Option.some.inj hr).symm
                    refine ⟨acc, hl6, ?_, F6, acc ++ [u], accd ++ [y], rest', ⟨G16.f, fun c o hc => ?_, G16.i.mut D6, G16.n⟩, SS6.other D6 DB hn, D6, upd_same, ra6.app (.one ru'), by first | rfl | exact er, ?_, by rw [List.length_append]; simp; omega⟩
                    · rw [ra6.length]
                      omega
                    · rw [upd_ne (ne_of_none hc hD)]
                      exact G16.h c o hc
                    · rw [ey, e2]
                      cases rest' with
                      | ok ys => show Except.ok (accd ++ y :: ys) = Except.ok (accd ++ [y] ++ ys); rw [List.append_assoc]; rfl
                      | error z => rfl
theorem pks_setLcE {i : Nat} {st : Stmt} {fi : Ro → EM (List D)} {q : Ro → EM Bool} {t : Tg} {sl vs : List Nat} (hs : ∀ j ∈ sl, j ∈ vs) (hW : ∀ c d σ σ' H, x.W c d σ H → x.W c d σ' H) (h : PS X st (tAsg (tLc (tI X.K x fi) (tG X.K x.nox sl t) (tT X.K x.nox q) (tK X.K x .fz f) vs) (gName i))) : PS X st (tS X.K x (sSet i (eLcE vs t fi q f))) :=
  ps_wk h fun E σ H q => lcE_rd (k := .fz) rfl (by decide) hs hW (tsAsg (i := i) q)
end
end Tw
/-! TwX: refusals with a field of their own: made and raised; the field read; isinstance. -/
namespace Tw
open PySem PySem.Spec PyProof.Rows L2
open L2H (RoomH Hot1 PinOk cxH inv_startH)
/-- the class's record, asked of the text -/
def oexB (K : PySem.W.Frag) (C : Addr) : Bool := match K.lookup C with
  | some ⟨.type "type", _, .cls kd, zs⟩ => (match kd.mro, zs.toList with
    | .ref C1 :: up, [_, _, _, _, some (.builtin nw), _] => C1 == C && (nw == "ValueError.__new__" && (kd.hasDict && (!kd.hasDel && PySem.HandSPX.refsVE up)))
    | _, _ => false)
  | _ => false
theorem oex_mk {K : PySem.W.Frag} {C : Addr} (b : oexB K C = true) (h1 : PySem.W.findIn K (.ref C) "__setattr__" = some (some (.builtin "object.__setattr__"))) (h2 : PySem.W.subIn K (.ref C) (.type "BaseException") = some true)
    (h3 : PySem.W.typeIn K (.ref C) = some (.type "type")) (h4 : PySem.W.keepIn K (.ref C) = true) : OexC K C := by
  refine ⟨?_, h1, h2, h3, h4⟩
  unfold oexB at b
  split at b
  rotate_left
  · cases b
  rename_i x1 kd zs hl
  split at b
  rotate_left
  · cases b
  rename_i C1 up y0 y1 y2 y3 nw y5 hm hz
  simp only [Bool.and_eq_true, beq_iff_eq, Bool.not_eq_true'] at b
  obtain ⟨e1, e2, e3, e4, e5⟩ := b
  obtain ⟨a1, a2, a3, a4, a5, a6, a7, a8, a9, a10, a11⟩ := kd
  obtain ⟨zl⟩ := zs
  dsimp only at hm e3 e4 hz
  subst hm e3 e4 e1 e2 hz
  exact ⟨_, _, _, _, _, _, _, _, _, _, _, _, _, _, _, hl, e5⟩
/-- what the class's __init__ promises: the base's is called, then the field is set -/
def spX (K : PySem.W.Frag) (C : Addr) (fl : Str) : Sp := fun vs H Q _ => ∃ (a : Addr) (n : Int), vs = [.ref a, .int n] ∧ OexC K C ∧ PySem.W.findIn K (.ref C) fl = some none ∧ H a = some (exo a C none) ∧
  ∀ dx, H dx = none → dx ≠ a → Q .non (upd (upd H dx (exd dx [(fl, .int n)])) a (exo a C (some dx)))
/-- Base.__init__(self, ..) where Base is an own class over ValueError -/
theorem pe_ginit {X : Cx} {n0 : Str} {GE : Addr} {mc : Value} {ta : TA} {e : Expr} {es : List Expr} {p1 p2 pos : Pos} {pl : Sem Bool} (hm : X.mg n0 = some (.ref GE)) (hr : ClX.CRead X.K GE mc) (hv : PySem.W.findCls X.K (.ref GE) mc "__init__" = some (.val (.builtin "ValueError.__init__")))
    (ha : PA X (e :: es) ta) (hg : Gl X n0 := by rfl) (hdb : (n0 == ("__debug__" : Str)) = false := by decide)
    (ht : eval (.Call (.Attribute (.Name n0 p1) "__init__" p2) (e :: es) [] pos) X.env = (do
      let ov ← eval (.Name n0 p1) X.env
      standAt p2.atName
      let (f, first) ← holding [ov] (getMethod ov "__init__" pl)
      callWith pos f first (backTo pos (starEach (e :: es) X.env)) (backToKw pos (keywordEach [] X.env))) := by rfl)
    (hst : starEach (e :: es) X.env = (false, eval e X.env) :: starEach es X.env := by rfl) (hpl : (backTo pos (starEach es X.env)).any (·.1) = false := by rfl) :
    PE X (.Call (.Attribute (.Name n0 p1) "__init__" p2) (e :: es) [] pos) (tVeI X.K ta) := by
  refine ⟨fun pins s σ H Q I q => ?_⟩
  have hC : PE X (.Name n0 p1) (tC (.ref GE)) := pe_glob hg hm rfl hdb
  refine PySem.W.methodCall_KW (pl := pl) (thn (hC.run pins s σ H (fun v H1 => v = .ref GE ∧ H1 = H) I ⟨rfl, rfl⟩) fun u s1 ⟨v, H1, I1, rv, ev, eH⟩ => ?_) ht
  subst ev eH
  obtain rfl : u = Value.ref GE := rv
  refine PySem.W.method_cls I1.kIn hr.ga (PySem.W.cls_value I1.kIn hr.rd hv rfl ?_)
  show wpAny _ _ (callWith pos (Value.builtin "ValueError.__init__") [] (backTo pos (starEach (e :: es) X.env)) []) _ _ _
  refine PyProof.Rows.callWith_method1 (thn (ha.run pos pins _ σ H1 _ (I1.tok _) q) fun us s2 hh => ?_) hst hpl
  obtain ⟨vs, H2, I2, r2, a, C, ws, rfl, hl, T, he, q2⟩ := hh
  cases r2 with
  | cons ra rb =>
    cases (show _ = Value.ref a from ra)
    exact oinit_ok T I2 he (by rw [← Paired.length rb, sizeLine_eq]; omega) fun s' J => ⟨.non, H2, J, rfl, q2⟩
abbrev tInitX (K : PySem.W.Frag) (fl z : Str) : TS := tSeq (tDrop (tVeI K (tCons (tVar 0) (tCons (tC (.str z)) tNil)))) (tSeq (tOst K fl (tVar 0) (tVar 1)) tNext)
section
variable {P : Program} {w : World} {K : PySem.W.Frag} {mg : Str → Option Value} {base : Heap}
theorem fnX {nm qual s0 d0 fl z : Str} {st : Stmt} {f C : Addr} {fd : FuncData} {k : Nat} (F : Fun K nm qual st f fd) (S : FnScope [s0, d0] [s0, d0] (defScope st))
    (hb : ∀ (cdv : Value) (R : Around) (outer : List Env) (s : Shared) (H : Hp) (E : XK), Room k (R.deeper (envOfC qual (defScope st) s.heap.objs.size f cdv)) → PSs (cxOf (L2N.CX P w) P w K mg base [s0, d0] qual (defScope st) f cdv R outer s H E) (defBody st) (tInitX K fl z)) :
    FnOk P w K mg base (L2N.CX P w) (k + 1) f fd [s0, d0] (spX K C fl) :=
  fun_ok F S (fun vs H Q E ⟨a, n, h, _⟩ => by rw [h]; rfl) fun cdv R outer s H vs Q E hr ⟨a, n, ev, T, hno, ha, q⟩ => by
    subst ev
    refine ⟨_, hb cdv R outer s H E hr, ?_⟩
    exact ⟨.ref a, rfl, a, C, [.str z], rfl, (by show (1 : Nat) ≤ 1000; decide), T, ha, .int n, rfl, .ref a, rfl, a, C, rfl, T, hno, .inl ⟨ha, q⟩⟩
end
theorem no_cx' {P : Program} {w : World} {o : List Env} {H : Hp} {s s' : Shared} {u : Value} (h : L2N.CX P w o H s (fun _ _ _ => False) u s') : False := by
  obtain ⟨_, _, _, _, _, _, _, _, _, _, _, _, q⟩ := h
  exact q
/-- C(e, ..), C's own __init__ -/
theorem pmk_oexN {X : Cx} {n0 : Str} {e : Expr} {es : List Expr} {ta : TA} {p pos : Pos} {C fI : Addr} {k : Nat} {fd : FuncData} {ps : List Str} {sp : Sp} (T : OexC X.K C) (h1 : PySem.W.findIn X.K (.ref C) "__init__" = some (some (.ref fI))) (h2 : PySem.W.typeIn X.K (.ref fI) = some (.type "function"))
    (Fn : FnOk X.prog X.w X.K X.mg X.base (L2N.CX X.prog X.w) k fI fd ps sp) (hr : Room (k + 1) X.A) (hb : Binds X.K fd ps []) (hg : Gl X n0) (hm : X.mg n0 = some (.ref C)) (ha : PA X (e :: es) ta)
    (hdb : (n0 == ("__debug__" : Str)) = false := by decide) (hst : starEach (e :: es) X.env = (false, eval e X.env) :: starEach es X.env := by rfl) (hpl : (backTo pos (starEach es X.env)).any (·.1) = false := by rfl) :
    L2N.PMk X (.Call (.Name n0 p) (e :: es) [] pos) (tMkO C sp [] ta) := by
  intro pins sh σ H Q I hh
  obtain ⟨z1, z2, z3, z4, z5, z6, z7, z8, z9, z10, z11, z12, z13, z14, z15, hC, hup⟩ := T.cls
  refine wpAny_Call_Name_kw (ld_glob I hg hm ?_ hdb)
  refine PySem.W.callWith_K (h₀ := X.base) I.ok.mod.kin T.kC (thn (ha.run pos pins sh σ H _ I hh) fun us s1 hq0 => ?_) hst hpl
  obtain ⟨vs, H1, I1, r1, hz, q1⟩ := hq0
  refine ⟨I1.kIn, ?_⟩
  show wpAny _ _ (call (.ref C) us) _ _ _
  obtain ⟨hp, gs, dw, tks, os⟩ := s1
  let a := hp.objs.size + 1
  let hp2 := (hp.push (PySem.W.kdv_tup us)).push (PySem.HandSPX.excO C hp.objs.size)
  have hsz : hp.objs.size ≤ a := Nat.le_succ _
  have hn : H1 a = none := I1.hok.fresh hsz
  have hq := q1 a hn
  rw [List.append_nil] at hq
  have kept : ∀ b o, hp.get? b = some o → hp2.get? b = some o := fun b o he => Heap.get?_push_of_some _ (Heap.get?_push_of_some _ he)
  have new : hp2.get? a = some (PySem.HandSPX.excO C hp.objs.size) := by
    show ((hp.push (PySem.W.kdv_tup us)).push (PySem.HandSPX.excO C hp.objs.size)).get? (hp.objs.size + 1) = _
    heap_get
  have I2 : Inv X pins σ (upd H1 a (exo a C none)) ⟨hp2, gs, dw, tks, os⟩ := I1.laid (t' := tks) (a := a) (o := exo a C none) (h' := hp2) kept hsz (exo_ok new)
  have r2 : Vals (V.ref a :: vs) (Value.ref a :: us) := .cons rfl r1
  have hl : (Value.ref a :: us ++ []).length = ps.length := by
    have e1 := Fn.len _ _ _ _ hq
    have e2 := r2.length
    rw [List.append_nil, ← e1, ← e2]
  have hus : us.length ≤ sizeLine := by rw [← Paired.length r1, sizeLine_eq]; omega
  have b2 := hb _ (Value.ref a :: us) I2.kIn hl
  rw [List.append_nil] at b2
  refine wpAny_call (PySem.HandSPX.call_own F.excBase_ValueError (fun Y => PySem.HandSPX.refsVE_contains Y z5 hup) (I1.kIn _ _ hC) (PySem.W.looks_findIn I1.kIn h1) (fun self => PySem.W.bind_fn I1.kIn self h2) hus
    (codeAny_mono (Fn.run _ X.stack _ _ ⟨Value.ref a :: us, []⟩ (Value.ref a :: us) _ _ (fun _ _ _ => False) (hr.make C us []) (I2.env0.make C us []) b2 r2 hq) fun r s' hq' => ?_))
  cases r with
  | error er => exact (no_cx' hq').elim
  | ok fo =>
    cases fo with
    | next => exact hq'.elim
    | brk => exact hq'.elim
    | cont => exact hq'.elim
    | ret u =>
      obtain ⟨v, H2, os2, bare2, un2, hok2, rv, ev, dx, fs, ea, ed, hd1, q2⟩ := hq'
      subst ev
      obtain ⟨h3, g3, d3, t3, os3⟩ := s'
      obtain ⟨t0, G, J, kG, ge, hoe, na⟩ := mk_end0 (d2 := d3) (t2 := t3) I1 hsz kept un2 hok2 os2 bare2 ea ed hd1
      refine ⟨rv, a, _, _, ⟨G, g3, d3, t3, os3⟩, _, .ref C, some dx, rfl, J, kG, ge, hoe, ⟨rfl, rfl, fun ws hv => ?_⟩, rfl, rfl, na, rfl, bare2, raises_own T.exC T.tyC, q2⟩
      cases hv
      rfl
/-- an own error class with a field, raised with a whole number -/
structure XclF (P : Program) (w : World) (K : PySem.W.Frag) (mg : Str → Option Value) (base : Heap) (A : Ad) (k : Nat) (nm : Str) (c : Xc) (fl : Str) : Prop where
  ex : ∃ f fd ps k', k' + 1 ≤ k ∧ OexC K (A.xc c) ∧ PySem.W.findIn K (.ref (A.xc c)) fl = some none ∧ PySem.W.findIn K (.ref (A.xc c)) "__init__" = some (some (.ref f)) ∧ PySem.W.typeIn K (.ref f) = some (.type "function") ∧
    FnOk P w K mg base (L2N.CX P w) k' f fd ps (spX K (A.xc c) fl) ∧ Binds K fd ps [] ∧ mg nm = some (.ref (A.xc c))
def sRaiseF (mk : Int → Xn) (f : Ro → EM D) : Ro → Option Fl := fun ρ => toS ρ (f ρ) fun d => match d with
  | .int n => some (.ex (mk n) ρ)
  | _ => none
section
variable {X : Cx} {x : Fx} {e : Expr} {n0 : Str} {p p2 p3 : Pos} {kk : Nat} {c : Xc} {fl : Str} {f : Ro → EM D}
theorem pks_raiseF {mk : Int → Xn} (hcl : ∀ n, (mk n).cl = c) (hxr : ∀ n H dd, XR H (mk n) dd ↔ ∃ d, dd = some d ∧ H d = some (.xd [(fl, .int n)])) (hc : X.calm = true) (tk : L2N.Takes X x.W) (C : XclF X.prog X.w X.K X.mg X.base x.A kk n0 c fl) (hr : Room kk X.A) (ha : PE X e (tK X.K x .fz f)) (hg : Gl X n0 := by rfl)
    (hdb : (n0 == ("__debug__" : Str)) = false := by decide) (hst : starEach [e] X.env = (false, eval e X.env) :: starEach [] X.env := by rfl) (hpl : (backTo p2 (starEach [] X.env)).any (·.1) = false := by rfl) :
    PS X (.Raise (some (.Call (.Name n0 p) [e] [] p2)) none p3) (tS X.K x (sRaiseF mk f)) := by
  obtain ⟨fI, fd, ps, k', hk, T, hno, h1, h2, Fn, hb, hm⟩ := C.ex
  refine ps_wk (L2N.ps_raise hc tk (pmk_oexN T h1 h2 Fn (hr.mono hk) hb hg hm (pa_cons ha pa_nil hst) hdb hst hpl)) fun E σ H ⟨F, ρ, fo, S, e0, w⟩ => ?_
  refine ts_step S e0 w fun d F1 H1 v G1 S1 r1 e1 w1 => ?_
  unfold sRaiseF at e1
  split at e1
  rotate_left
  · cases e1
  rename_i n
  cases (Option.some.inj e1)
  have ev : v = .int n := by cases r1; rfl
  subst ev
  refine ⟨by simp, fun a hn => ⟨a, n, rfl, T, hno, upd_same, fun dx hdx hne => ⟨rfl, dx, [(fl, .int n)], upd_same, by rw [upd_ne hne, upd_same], ?_, ?_⟩⟩⟩
  · rw [upd_ne hne] at hdx; exact hdx
  · have hd1 : H1 dx = none := by rw [upd_ne hne] at hdx; exact hdx
    have eH : upd (del (upd (upd (upd H1 a (exo a (x.A.xc c) none)) dx (exd dx [(fl, .int n)])) a (exo a (x.A.xc c) (some dx))) a) dx (.xd [(fl, .int n)]) = upd H1 dx (.xd [(fl, .int n)]) := by
      funext b
      by_cases q1 : b = dx
      · rw [q1, upd_same, upd_same]
      · rw [upd_ne q1, upd_ne q1]
        by_cases q2 : b = a
        · rw [q2, del_same, hn]
        · rw [del_ne q2, upd_ne q2, upd_ne q1, upd_ne q2]
    rw [eH]
    have G2 : Grow F1 H1 F1 (upd H1 dx (.xd [(fl, .int n)])) := ⟨.refl _, fun b o hb => by rw [upd_ne (ne_of_none hb hd1)]; exact hb, fun b o hb => by rw [upd_ne (ne_of_none (S1.fh b o hb) hd1)]; exact S1.fh b o hb, fun _ _ _ => rfl⟩
    have := w1 F1 (upd H1 dx (.xd [(fl, .int n)])) σ (.refl _) (S1.grow G2) (some dx) ((hxr n _ _).mpr ⟨dx, rfl, upd_same⟩)
    rw [hcl n] at this
    exact this
end
end Tw
/-! TwY: a caught refusal's field; isinstance of any refusal. -/
namespace Tw
open PySem PySem.Spec PyProof.Rows L2
open L2H (RoomH Hot1 PinOk cxH inv_startH)
theorem xr_dict {H : Hp} {y : Xn} {d : Option Addr} (h : XR H y d) : d = none ∨ ∃ dd fs, d = some dd ∧ H dd = some (.xd fs) := by
  cases y <;> first | exact .inl h | exact .inr (let ⟨dd, e1, e2⟩ := h; ⟨dd, _, e1, e2⟩)
theorem xr_mono {H H' : Hp} {y : Xn} {d : Option Addr} (e : Ex H H') (h : XR H y d) : XR H' y d := by
  revert h
  unfold XR
  cases y <;> first | exact fun q => q | exact fun ⟨dd, q1, q2⟩ => ⟨dd, q1, e _ _ q2⟩
def IsTabX (K : PySem.W.Frag) (A : Ad) (u : Value) (tab : Xc → Option Bool) : Prop := ∀ c b, tab c = some b → ExcC K (A.xc c) ∧ PySem.W.kitOne K (.ref (A.xc c)) u = some b
def dDay : Xn → EM D
  | .badDay n => ok (.int n)
  | _ => none
def dRow : Xn → EM D
  | .badRow n => ok (.int n)
  | _ => none
/-- what the class of a refusal with a field must say -/
structure XfD (K : PySem.W.Frag) (A : Ad) (c : Xc) (fl : Str) : Prop where
  xf : XfC K (A.xc c)
  no : PySem.W.findIn K (.ref (A.xc c)) fl = some none
section
variable {X : Cx} {x : Fx} {a : Addr} {y : Xn} {d : Option Addr} {e c : Expr} {p pos : Pos} {i : Nat} {cv : V} {u : Value} {tab : Xc → Option Bool}
theorem xr_inst {pins : List (Addr × Obj)} {s : Shared} {σ : L2.St} {H : Hp} {oe : Obj} (I : Inv X pins σ H s) (h2 : (a, oe) ∈ X.pn) (h3 : L2.Zc (.ref (x.A.xc y.cl)) d oe) (h4 : ∃ vs, oe.data = .fields vs) (xr : XR H y d) : ∃ od, PySem.W.InstAt s.heap a oe (x.A.xc y.cl) od := by
  have hget := (I.pin (a, oe) (List.mem_append_left _ h2)).1
  obtain ⟨vs, hv⟩ := h4
  obtain ⟨oc, od, oda, osl⟩ := oe
  obtain ⟨e1, e2⟩ := h3
  dsimp only at e1 e2 hv
  subst e1 e2 hv
  rcases xr_dict xr with q | ⟨dd, fs, q, hd⟩
  · subst q
    exact ⟨none, hget, rfl, rfl, trivial⟩
  · subst q
    have hx : ObjOk X.prog X.w H s.heap dd (.xd fs) := I.hok dd _ hd
    obtain ⟨mA, hns, _⟩ := hx
    obtain ⟨o1, ho, _⟩ := lookIn_ns hns
    exact ⟨some o1, hget, rfl, rfl, ho⟩
theorem pk_isX (T : IsTabX X.K x.A u tab) (hot : HotE x.A X a y d) (hB : XR x.B y d) (hT : ∀ j, x.T j = .ref a) (cu : ClsV cv u) (hm : X.mg "isinstance" = none) (hg : Gl X "isinstance") (hc : PE X c (tC cv)) (he : PE X e (tVar i))
    (hs : starEach [e, c] X.env = (false, eval e X.env) :: starEach [c] X.env := by rfl) (hs2 : starEach [c] X.env = (false, eval c X.env) :: starEach [] X.env := by rfl) (hpl : (backTo pos (starEach [c] X.env)).any (·.1) = false := by rfl) :
    PE X (.Call (.Name "isinstance" p) [e, c] [] pos) (tK X.K x .fz (eTk i (dIsE tab y))) := by
  cases et : tab y.cl with
  | none =>
    refine ⟨fun pins s σ H Q I ⟨F, ρ, r, S, ee, w⟩ => ?_⟩
    unfold eTk dIsE at ee
    rw [et] at ee
    split at ee <;> cases ee
  | some b =>
    obtain ⟨C, kb⟩ := T _ _ et
    have call : CallR X (.builtin "isinstance") (fun xs H Q => xs = [.ref a, cv] ∧ XR H y d ∧ Q (.bl b) H) := by
      rintro pins s σ H xs us Q I r ⟨rfl, xr, q⟩
      obtain ⟨u1, u2, rfl, r1, r2⟩ := vals2 r
      cases r1
      cases (cu.eq r2)
      obtain ⟨oe, h2, h3, h4⟩ := hot.ex
      obtain ⟨od, J⟩ := xr_inst (x := x) I h2 h3 h4 xr
      obtain ⟨cd, hcd, _⟩ := PySem.W.any_some C.hd
      exact PySem.W.kia_one (PySem.W.kitx_exc (by rw [hcd]; rfl) C.hg C.hk C.hs C.ha C.hn C.ht C.hm) I.kIn J kb (fun z => nomatch z) fun t1 => ⟨.bl b, H, I.kept (t' := t1) fun _ _ z => z, rfl, q⟩
    refine pe_wk (pe_callB call hg hm (by decide +kernel) (pa_cons he (pa_cons hc pa_nil hs2) hs) (he := hs) (hpl := hpl)) fun σ H Q ⟨F, ρ, r, S, ee, w⟩ => ?_
    unfold eTk dIsE at ee
    rw [et] at ee
    by_cases hi : isTk ρ[i]? = true
    rotate_left
    · rw [if_neg hi] at ee; cases ee
    rw [if_pos hi] at ee
    cases (Option.some.inj ee)
    obtain ⟨j, hj⟩ := isTk_ex hi
    exact ⟨.ref a, by rw [S.tk i j hj, hT j], rfl, xr_mono S.bh hB, w F H _ (.refl S.fh) (.bl b)⟩
theorem pe_xfA {fl : Str} {n : Int} {dd : Addr} (T : XfD X.K x.A y.cl fl) (hot : HotE x.A X a y d) (ed : d = some dd) (he : PE X e (tVar i)) (hb : attributeBase e fl X.env (eval e X.env) = eval e X.env := by rfl) :
    PE X (.Attribute e fl pos) (fun σ H Q => σ[i]? = some (some (.ref a)) ∧ H dd = some (.xd [(fl, .int n)]) ∧ Q (.int n) H) := by
  refine ⟨fun pins s σ H Q I ⟨hv, hd, q⟩ => ?_⟩
  refine attr_of hb (thn (he.run pins s σ H (fun v H1 => v = .ref a ∧ H1 = H) I ⟨.ref a, hv, rfl, rfl⟩) fun u1 s1 hh => ?_)
  obtain ⟨v, H1, I1, rv, ev, eH⟩ := hh
  subst ev eH
  obtain rfl : u1 = Value.ref a := rv
  obtain ⟨oe, h2, h3, vs, hvs⟩ := hot.ex
  have hget := (I1.pin (a, oe) (List.mem_append_left _ h2)).1
  have hx : ObjOk X.prog X.w H1 s1.heap dd (.xd [(fl, .int n)]) := I1.hok dd _ hd
  obtain ⟨mA, hns, rel⟩ := hx
  obtain ⟨o1, ho, hl⟩ := lookIn_ns hns
  have hlk : ([(fl, V.int n)] : List (Str × V)).lookup fl = some (.int n) := by simp [List.lookup]
  obtain ⟨u2, hu, ru⟩ := RelO.some_of (v := .int n) (o := mA fl) (by rw [← hlk]; exact rel fl)
  have J : PySem.W.InstAt s1.heap a oe (x.A.xc y.cl) (some o1) := ⟨hget, h3.1, by unfold PySem.W.notCls; rw [hvs] <;> rfl, by rw [h3.2, ed]; exact ho⟩
  exact HandSPX.exc_get I1.kIn J T.xf.ga T.xf.gg T.xf.exC (PySem.W.findObj_own T.xf.hdC T.no rfl (by rw [hl, hu])) (handed_of ru) ⟨.int n, H1, I1.tok _, ru, q⟩
theorem pk_day (T : XfD X.K x.A .badDay "day") (hot : HotE x.A X a y d) (hB : XR x.B y d) (hT : ∀ j, x.T j = .ref a) (he : PE X e (tVar i)) (hb : attributeBase e "day" X.env (eval e X.env) = eval e X.env := by rfl) : PE X (.Attribute e "day" pos) (tK X.K x .fz (eTk i (dDay y))) := by
  cases y with
  | badDay n =>
    obtain ⟨dd, ed, hd⟩ := hB
    refine pe_wk (pe_xfA (n := n) T hot ed he hb) fun σ H Q ⟨F, ρ, r, S, ee, w⟩ => ?_
    unfold eTk at ee
    by_cases hi : isTk ρ[i]? = true
    rotate_left
    · rw [if_neg hi] at ee; cases ee
    rw [if_pos hi] at ee
    cases (Option.some.inj ee)
    obtain ⟨j, hj⟩ := isTk_ex hi
    exact ⟨by rw [S.tk i j hj, hT j], S.bh _ _ hd, w F H _ (.refl S.fh) (.int n)⟩
  | _ =>
    refine ⟨fun pins s σ H Q I ⟨F, ρ, r, S, ee, w⟩ => ?_⟩
    unfold eTk dDay at ee
    split at ee <;> cases ee
theorem pk_row (T : XfD X.K x.A .badRow "row") (hot : HotE x.A X a y d) (hB : XR x.B y d) (hT : ∀ j, x.T j = .ref a) (he : PE X e (tVar i)) (hb : attributeBase e "row" X.env (eval e X.env) = eval e X.env := by rfl) : PE X (.Attribute e "row" pos) (tK X.K x .fz (eTk i (dRow y))) := by
  cases y with
  | badRow n =>
    obtain ⟨dd, ed, hd⟩ := hB
    refine pe_wk (pe_xfA (n := n) T hot ed he hb) fun σ H Q ⟨F, ρ, r, S, ee, w⟩ => ?_
    unfold eTk at ee
    by_cases hi : isTk ρ[i]? = true
    rotate_left
    · rw [if_neg hi] at ee; cases ee
    rw [if_pos hi] at ee
    cases (Option.some.inj ee)
    obtain ⟨j, hj⟩ := isTk_ex hi
    exact ⟨by rw [S.tk i j hj, hT j], S.bh _ _ hd, w F H _ (.refl S.fh) (.int n)⟩
  | _ =>
    refine ⟨fun pins s σ H Q I ⟨F, ρ, r, S, ee, w⟩ => ?_⟩
    unfold eTk dRow at ee
    split at ee <;> cases ee
end
end Tw
/-! TwZ: a list comprehension out of whose element a refusal comes. -/
namespace Tw
open PySem PySem.Spec PyProof.Rows L2
theorem noteFrame_eq {e : Value} {c1 c2 : Env} (h : c1.frame = c2.frame) : noteFrame e c1 = noteFrame e c2 := by
  unfold noteFrame PySem.frameOf
  rw [h]
theorem frames_in {h h2 B B2 : Heap} (k : ∀ b, B.get? b = none → B2.get? b = none ∧ h2.get? b = h.get? b) : ∀ {l : List Env}, h.FunFrames B l → h2.FunFrames B2 l
  | [], _ => trivial
  | c :: l, ⟨h1, ⟨L, o, e1, e2, e3, e4⟩, r⟩ => ⟨h1, ⟨L, o, e1, (k L e2).1, by rw [(k L e2).2]; exact e3, e4⟩, frames_in k r⟩
section
variable {M : Model} {A : Around} {E : Value → Shared → Prop} {s : Shared} {Z : Obj → Prop} {B : Heap} {env : Env} {outer : List Env} {L C a : Addr} {Q : Unit → Shared → Prop}
/-- held at another place, now noted here -/
theorem elseZ (hZ : PXN.Steady1 Z) (hfr : A.frames = some (env :: outer)) (hf : env.frame = some L) (hne : C ≠ L) (hh : HandSPX.HeldZ B (env :: outer) a Z C s.heap)
    (hQ : ∀ h', HandSPX.HeldZ B (env :: outer) a Z L h' → s.heap.UpToSlots h' → Q () { s with heap := h' }) : wpAny M A (noteFrame (.ref a) env) Q E s := by
  obtain ⟨g1, g2, g3, ox, xs, T, oT, ts, ha, hz, hx, x1, tB, tne, ht, htd, t3⟩ := hh
  have hT : ∀ b, b ≠ T → (s.heap.update T (Obj.mapFields (·.setIfInBounds 3 Value.none))).get? b = s.heap.get? b := fun b q => Heap.get?_update_other _ _ (Ne.symm q)
  have notT : ∀ b o, s.heap.get? b = some o → (∀ zs, o.data ≠ .fields zs) → b ≠ T := fun b o hb hn q => by
    subst q
    rw [ht] at hb
    cases hb
    exact hn ts htd
  have nt : (rawInt C == rawInt L) = false := by
    have : (C : Int) ≠ (L : Int) := fun z => hne (Int.ofNat.inj z)
    simp [rawInt, this]
  unfold noteFrame
  simp only [hf]
  refine wpAny_bind (wpAny_field ha hx x1 ?_)
  rw [if_pos (by simp : (Value.ref T != Value.none) = true)]
  refine wpAny_bind (wpAny_field ht htd t3 ?_)
  rw [if_neg (by rw [nt]; decide)]
  refine wpAny_bind (wpAny_setField ht htd (Array.getElem?_eq_some_iff.mp t3).1 ?_)
  refine PXN.wpAny_entryZ hZ hfr (g3.of_keeps fun b o hb hn => ⟨o, (hT b (notT b o hb hn)).trans hb, rfl⟩) hf ((hT a (Ne.symm tne)).trans ha) (fun b o hb => ?_) g2 hx (Array.getElem?_eq_some_iff.mp x1).1 hz fun h' hN => ?_
  · have : b ≠ T := fun q => by rw [q, tB] at hb; cases hb
    rw [hT b this]
    exact g1 b o hb
  · obtain ⟨n1, n2, n3, n4⟩ := hN
    exact hQ h' ⟨n1, g2, n2, n3⟩ fun b o hb hn => n4 b o ((hT b (notT b o hb hn)).trans hb) hn
theorem sky_note (hZ : PXN.Steady1 Z) (hfr : A.frames = some (env :: outer)) (hf : env.frame = some L) (hne : C ≠ L) (x : Sky B (env :: outer) a Z C s.heap)
    (hQ : ∀ h', HandSPX.HeldZ B (env :: outer) a Z L h' → s.heap.UpToSlots h' → Q () { s with heap := h' }) : wpAny M A (noteFrame (.ref a) env) Q E s := by
  rcases x with ⟨q1, q2, q3, oe, vs, q4, q5, q6, q7⟩ | q | q
  · exact PXN.look_newZ hZ hfr q3 hf q4 q1 q2 q6 q7 q5 hQ
  · exact PXN.looks_onZ hZ hfr hf q hQ
  · exact elseZ hZ hfr hf hne q hQ
theorem pass_on {α : Type} {what : String} {l : List Env} {Qa : α → Shared → Prop} (hf : env.frame = some L) (hh : HandSPX.HeldZ B l a Z L s.heap) (hE : ∀ h', HandSPX.HeldZ B l a Z L h' → s.heap.UpToSlots h' → E (.ref a) { s with heap := h' }) :
    wpAny M A (PySem.passOn what (.ref a) env : Sem α) Qa E s := by
  obtain ⟨ox, xs, T, oT, ts, ha, hz, hx, x1, r⟩ := hh.2.2.2
  unfold PySem.passOn
  refine wpAny_bind (wpAny_field ha hx x1 ?_)
  rw [if_neg (by simp : ¬ (Value.ref T == Value.none) = true)]
  rw [hf]
  exact wpAny_bind (HandSPX.setFlight_onZ hh fun h' k1 k2 => wpAny_throw (hE h' k1 k2))
/-- the ground without one object that nobody holds -/
theorem held_cut {l : List Env} {h h2 G : Heap} (hh : HandSPX.HeldZ B l a Z L h) (hC : ∃ o, B.get? C = some o) (k : ∀ b, b ≠ C → h2.get? b = h.get? b) (g1 : ∀ b, b ≠ C → G.get? b = B.get? b) (g2 : G.get? C = none) : HandSPX.HeldZ G l a Z L h2 := by
  obtain ⟨f1, f2, f3, ox, xs, T, oT, ts, ha, hz, hx, x1, tB, tne, ht, r⟩ := hh
  obtain ⟨oC, hC⟩ := hC
  have ne : ∀ b, B.get? b = none → b ≠ C := fun b q z => by rw [z, hC] at q; cases q
  have na := ne a f2
  have nT := ne T tB
  refine ⟨fun b o hb => ?_, by rw [g1 a na]; exact f2, frames_in (fun b q => ⟨by rw [g1 b (ne b q)]; exact q, k b (ne b q)⟩) f3, ox, xs, T, oT, ts, by rw [k a na]; exact ha, hz, hx, x1, by rw [g1 T nT]; exact tB, tne, by rw [k T nT]; exact ht, r⟩
  by_cases q : b = C
  · rw [q, g2] at hb; cases hb
  · rw [g1 b q] at hb
    rw [k b q]
    exact f1 b o hb
end
/-! ### the comprehension, its block's end told for both ways -/
def blkEnd (M : Model) (A : Around) (E : Value → Shared → Prop) (use : Option (Value → Sem Unit)) (Q : Value → Shared → Prop) (acc : Value) (ce : Env) (r : Result) (s' : Shared) : Prop := match r, use with
  | .ok _, none => ∃ m, s'.heap.Ns ce.locals m ∧ ∀ h', Heap.SameBut ce.locals s'.heap h' → Q acc { s' with heap := h' }
  | .ok _, some u => wpAny M A (u acc) (fun _ s2 => ∃ m, s2.heap.Ns ce.locals m ∧ ∀ h', Heap.SameBut ce.locals s2.heap h' → Q .none { s2 with heap := h' }) E s'
  | .error x, _ => ∃ m, s'.heap.Ns ce.locals m ∧ ∀ h', Heap.SameBut ce.locals s'.heap h' → wpAny M A (PySem.passOn "comprehension.variables-let-go" x ce : Sem Value) (fun _ _ => False) E { s' with heap := h' }
section
variable {M : Model} {A : Around} {E : Value → Shared → Prop} {s : Shared} {env : Env}
theorem comp_run {e : Expr} {scope : Scope} {pos : Pos} {mkA first : Sem Value} {g : Comprehension} {gs : List Comprehension} {cl : List (Str × Addr)} {use : Option (Value → Sem Unit)} {Q : Value → Shared → Prop}
    (h1 : clausesOf e = g :: gs) (h2 : ∀ x, foldedSetIterable g.iter env x = pure x) (h3 : closureFor scope env = pure cl) (h4 : scope.kind = .function) (h5 : ∀ x ∈ scope.names, x.2 = .local → scope.names.lookup x.1 = some .local)
    (h : wpAny M A first (fun x s1 => wpAny M A (pyIter x) (fun it s2 => wpAny M A mkA (fun acc s3 => wpAny M A (newFunctionEnv scope env.globals cl [] env.qual none .none (some env))
      (fun ce s4 => codeAny M A (.compStart e 0 it acc { ce with scope := relabel scope env }) (blkEnd M A E use Q acc { ce with scope := relabel scope env }) s4) E s3) E s2) E s1) E s) :
    wpAny M A (comprehension e scope env pos mkA false first use) Q E s := by
  unfold comprehension
  rw [h3, h1]
  refine wpAny_bind (wpAny_mono h (fun x s1 q1 => ?_) fun _ _ z => z)
  refine wpAny_bind (wpAny_standAt (wpAny_bind (wpAny_of_eq (h2 x) (wpAny_bind (wpAny_holding (wpAny_mono q1 (fun it s2 q2 => ?_) fun _ _ z => z))))))
  refine wpAny_standIf (wpAny_bind (wpAny_mono q2 (fun acc s3 q3 => ?_) fun _ _ z => z))
  refine wpAny_bind (wpAny_pure (wpAny_bind (wpAny_mono q3 (fun ce s4 q4 => ?_) fun _ _ z => z)))
  dsimp only
  have own : ∀ y ∈ (scope.names.filter fun y => (y.2 == .local || y.2 == .cell) && y.1 != (".0" : Str)), y.2 = .local → Env.kindOf { ce with scope := relabel scope env } y.1 = some .local := fun y hy hl =>
    lookup_relabel_local (h5 y (List.mem_filter.mp hy).1 hl)
  have own1 : ∀ y ∈ (scope.names.filter fun y => (y.2 == .local || y.2 == .cell) && y.1 != (".0" : Str)).reverse, y.2 = .local → Env.kindOf { ce with scope := relabel scope env } y.1 = some .local := fun y hy => own y (List.mem_reverse.mp hy)
  have own2 : ∀ y ∈ (scope.names.filter fun y => (y.2 == .local || y.2 == .cell) && y.1 != (".0" : Str)).reverse.drop 1 ++ (scope.names.filter fun y => (y.2 == .local || y.2 == .cell) && y.1 != (".0" : Str)).reverse.take 1,
      y.2 = .local → Env.kindOf { ce with scope := relabel scope env } y.1 = some .local := fun y hy => (List.mem_append.mp hy).elim (fun q => own1 y (List.mem_of_mem_drop q)) fun q => own1 y (List.mem_of_mem_take q)
  refine wpAny_holding (wpAny_bind (wpAny_attempt (wpAny_holding (wpAny_run (codeAny_mono q4 fun r s5 hr => ?_)))))
  cases r with
  | error x =>
    have hr' : ∃ m, s5.heap.Ns ce.locals m ∧ ∀ h', Heap.SameBut ce.locals s5.heap h' → wpAny M A (PySem.passOn "comprehension.variables-let-go" x { ce with scope := relabel scope env } : Sem Value) (fun _ _ => False) E { s5 with heap := h' } := by cases use <;> exact hr
    obtain ⟨m, hn, hx⟩ := hr'
    exact wpAny_bind (wpAny_holding (wpAny_comp_letGo (cenv := { ce with scope := relabel scope env }) h4 _ s5 m own1 hn fun h' _ _ sb => wpAny_mono (hx h' sb) (fun _ _ f => f.elim) fun _ _ z => z))
  | ok fo =>
    cases use with
    | none =>
      obtain ⟨m, hn, hq⟩ := hr
      exact wpAny_bind (wpAny_holding (wpAny_comp_letGo (cenv := { ce with scope := relabel scope env }) h4 _ s5 m own1 hn fun h' _ _ sb => wpAny_pure (hq h' sb)))
    | some u =>
      refine wpAny_bind (wpAny_rule (wpAny_bind (wpAny_holding (wpAny_mono hr (fun _ s6 hq => ?_) fun _ _ z => z))))
      obtain ⟨m, hn, hq⟩ := hq
      exact wpAny_bind (wpAny_comp_letGo (cenv := { ce with scope := relabel scope env }) h4 _ s6 m own2 hn fun h' _ _ sb => wpAny_pure (hq h' sb))
end
/-! ### the core -/
abbrev blkX (X : Cx) (s : Shared) (H : Hp) (scope : Scope) (ce : Env) (wr : List Addr) (xe : Value → Shared → Prop) : Cx := { X.blk s H scope ce wr with xe := xe }
theorem inv_xe {X : Cx} {pins : List (Addr × Obj)} {σ : L2.St} {H : Hp} {s : Shared} (xe : Value → Shared → Prop) (I : Inv X pins σ H s) : Inv { X with xe := xe } pins σ H s :=
  ⟨⟨I.ok.mod, I.ok.kind, I.ok.glob, I.ok.blt, I.ok.above, I.ok.inj, I.ok.has, I.ok.cab, I.ok.hd, I.ok.frames, I.ok.stk, I.ok.exf, I.ok.bs, I.ok.bsz, I.ok.noex, I.ok.exfs, I.ok.funs, I.ok.frf⟩, I.os, I.bare, I.base, I.loc, I.cell, I.free, I.freeC, I.pin, I.hok, I.len⟩
section
variable {X : Cx} {W : WX}
theorem lc_coreE {pins : List (Addr × Obj)} {s : Shared} {σ : L2.St} {H : Hp} {Q : VK} {elt tg iter : Expr} {ifs : List Expr} {scope : Scope} {own : List (Str × Nat)} {pos pos' : Pos} {wi : TI} {g : TG} {tt : TT} {te : TE} {use : Option (Value → Sem Unit)} {Qf : Value → Shared → Prop}
    (hc : X.calm = true) (hN : X.N.Nodup) (hs : X.stack = X.env :: X.outer) (hf : X.env.frame = some X.env.locals) (tk : L2N.Takes X W) (hW : ∀ c d σ σ' H, W c d σ H → W c d σ' H) (I : Inv X pins σ H s) (hi : PI X tg iter wi) (ok : BlkOk X.N X.env.scope scope own)
    (hg : ∀ s H C cl wr xe, L2N.Takes (blkX X s H scope (compEnvC scope cl C X.env) wr xe) W → PG (blkX X s H scope (compEnvC scope cl C X.env) wr xe) tg g)
    (ht : ∀ s H C cl wr xe, L2N.Takes (blkX X s H scope (compEnvC scope cl C X.env) wr xe) W → PTs (blkX X s H scope (compEnvC scope cl C X.env) wr xe) ifs tt)
    (he : ∀ s H C cl wr xe, L2N.Takes (blkX X s H scope (compEnvC scope cl C X.env) wr xe) W → PE (blkX X s H scope (compEnvC scope cl C X.env) wr xe) elt te)
    (hfs : ∀ x, foldedSetIterable iter X.env x = pure x) (h : tLc wi g tt te (own.map (·.2)) σ H Q)
    (hend : ∀ D C s' m H', Inv X pins σ H' s' → Q (.ref D) H' → s'.heap.Ns C m → FpOk X pins H' C → ∀ ce : Env, ce.locals = C → blkEnd (model X.prog X.w) X.A X.xe use Qf (.ref D) ce (.ok .next) s') :
    wpAny (model X.prog X.w) X.A (comprehension (.ListComp elt [⟨tg, iter, ifs, 0⟩] scope pos) scope X.env pos' (newList []) false (eval iter X.env) use) Qf X.xe s := by
  have outer : ∀ y ∈ scope.names, y.2 = .free → ∃ c, X.env.cells.lookup y.1 = some c := fun y hy e => (ok.free y hy e).elim (fun q => I.ok.has _ (.inl q)) fun q => I.ok.has _ (.inr q)
  refine comp_run (use := use) rfl hfs (closure_ok outer) ok.kind (fun y hy e => (ok.uniq y hy).trans (by rw [e])) (thn (hi.run pins s σ H _ I h) fun xv sa hx => thn hx fun itv sb hb => ?_)
  obtain ⟨it, wr, tn, J, Hb, rfl, Ib, T, stb, fb, q⟩ := hb
  refine wpAny_newObj_type (newEnv_comp ?_) (by show 0 ≤ sizeLine; decide)
  generalize eD : sb.heap.objs.size = D
  have nD : Hb D = none := Ib.hok.fresh (Nat.le_of_eq eD)
  obtain ⟨Wt, ⟨m0, w0⟩, turn⟩ := q D nD
  generalize esc : ({ sb with heap := sb.heap.push { cls := .type "list", data := .seq ([] : List Value).toArray } } : Shared) = sc
  have hsc : sc.heap = sb.heap.push { cls := .type "list", data := .seq ([] : List Value).toArray } := by rw [← esc]
  have Ic : Inv X pins σ (upd Hb D (.lst [])) sc := by
    rw [← esc]
    refine Ib.laid (t' := sb.toks) (fun b o z => Heap.get?_push_of_some _ z) (Nat.le_of_eq eD) ⟨Nat.zero_le _, [], 0, .nil, ?_⟩
    rw [← eD]
    exact Heap.get?_push_size _ rfl
  have fc : ∀ b ∈ wr, FpOk X pins (upd Hb D (.lst [])) b ∧ b < sc.heap.objs.size := fun b hb => by
    obtain ⟨o, z, _⟩ := T.obj _ _ stb b hb
    have lt := Heap.lt_size z
    refine ⟨⟨by rw [upd_ne (by rw [← eD]; exact Nat.ne_of_lt lt)]; exact (fb b hb).1, (fb b hb).2⟩, ?_⟩
    rw [hsc, Heap.size_push]
    exact Nat.lt_succ_of_lt lt
  have stc : tn 0 sc.heap := T.keep _ _ _ stb fun b _ o z => by rw [hsc]; exact Heap.get?_push_of_some _ z
  have Id0 := block_start Ic ok hN fc
  -- the refusal's way out
  let xb : Cx → Value → Shared → Prop := fun Y u s' => L2N.XE Y W u s'
  generalize eC : sc.heap.objs.size = C at Id0 ⊢
  generalize eH : upd Hb D (.lst []) = Hc at Ic Id0 w0 fc ⊢
  let ce := compEnvC scope (cellsFrom (C + 1) scope.names (cloFrom X.env.cells scope.names [])) C X.env
  let Y0 := X.blk sc Hc scope ce wr
  let xe : Value → Shared → Prop := fun u s' => L2N.XE Y0 W u s'
  let Y := blkX X sc Hc scope ce wr xe
  have tkY : L2N.Takes Y W := fun u s' hx => by
    obtain ⟨a, B, sI, ps, σ1, H1, cls, d, e1, I1, r⟩ := hx
    exact ⟨a, B, sI, ps, σ1, H1, cls, d, e1, inv_xe (X := Y) (fun _ _ => False) I1, r⟩
  have pg : PG Y tg g := hg sc Hc C _ wr xe tkY
  have pt : PTs Y ifs tt := ht sc Hc C _ wr xe tkY
  have pe : PE Y elt te := he sc Hc C _ wr xe tkY
  have Id := inv_xe (X := Y0) xe Id0
  have nw : ∀ b ∈ wr, Hc b = none := fun b hb => (fc b hb).1.1
  generalize esd : ({ sc with heap := pushCells (sc.heap.push { cls := .type "dict", data := .dict #[] }) scope.names } : Shared) = sd at Id ⊢
  have std : tn 0 sd.heap := T.keep _ _ _ stc fun b _ o z => by rw [← esd]; exact pushCells_keeps _ _ _ _ (Heap.get?_push_of_some _ z)
  have still : ∀ {σ' : L2.St} {H' : Hp} {s' : Shared}, Inv Y [] σ' H' s' → (∀ b ∈ wr, H' b = none) → ∀ b ∈ wr, FpOk Y [] H' b := fun I' hn b hb =>
    ⟨hn b hb, (I'.ok.exf b hb).1, I'.ok.exfs b hb, .inl hb, fun x c e => (I'.ok.exf b hb).2 x c e, fun p hp => absurd (show p ∈ ([] : List (Addr × Obj)) ++ [] from hp) (by simp)⟩
  -- back in the def's context
  have back : ∀ {ps : List (Addr × Obj)} {σ' : L2.St} {H' : Hp} {s' : Shared}, Inv Y ps σ' H' s' → Inv X pins σ H' s' ∧ (∃ m, s'.heap.Ns C m) ∧ FpOk X pins H' C := fun {ps σ' H' s'} I' => by
    have I2 : Inv X pins σ H' s' := Ic.call' (ch := wr) I'.os I'.base I'.hok I'.bare fun b hb => ⟨(fc b hb).1.2.2.2.1, (fc b hb).1.2.1, (fc b hb).1.2.2.2.2.1, (fc b hb).1.2.2.2.2.2⟩
    have nC : H' C = none := I'.free
    obtain ⟨m, hn, _⟩ := I'.loc
    exact ⟨I2, ⟨m, hn⟩, Ic.fpOk (Nat.le_of_eq eC) nC⟩
  have out : ∀ u s', xe u s' → notedBy (model X.prog X.w) X.A ce (fun e s2 => blkEnd (model X.prog X.w) X.A X.xe use Qf (.ref D) ce (.error e) s2) u s' := fun u s' hx => by
    obtain ⟨a, B, sI, ps, σ1, H1, cls, d, rfl, I1, nb, up, sky, na, os, ag, w⟩ := hx
    obtain ⟨Ix, ⟨m, hn⟩, fC⟩ := back (inv_xe (X := Y0) xe I1)
    obtain ⟨f0, f1, f2, f3, f4, f5⟩ := fC
    have nfr : C ∉ frs X.stack := by
      rw [hs]
      show C ∉ List.filterMap _ (X.env :: X.outer)
      rw [List.filterMap_cons, hf]
      exact fun z => (List.mem_cons.mp z).elim f1 f2
    obtain ⟨oC, es, ep, hC, hd, hk, hl⟩ := hn
    have hB := nb C oC hC nfr
    have sky' : Sky B (X.env :: X.outer) a (L2N.Zn cls d) C s'.heap := by rw [← hs]; exact sky
    unfold notedBy
    rw [noteFrame_eq (c1 := ce) (c2 := X.env) rfl]
    refine sky_note L2N.Zn.steady (by rw [← hs]; exact I.ok.frames) hf f1 sky' fun h1 hh up1 => ?_
    have hC1 : h1.get? C = some oC := hh.1 C oC hB
    refine ⟨m, ⟨oC, es, ep, hC1, hd, hk, hl⟩, fun h2 sb2 => ?_⟩
    obtain ⟨B2, b1, b2⟩ := restrict B fun b => decide (b ≠ C)
    obtain ⟨G, g1, g2⟩ := restrict sI.heap fun b => decide (b ≠ C)
    have b1' : ∀ b, b ≠ C → B2.get? b = B.get? b := fun b hb => b1 b (decide_eq_true hb)
    have g1' : ∀ b, b ≠ C → G.get? b = sI.heap.get? b := fun b hb => g1 b (decide_eq_true hb)
    have hh2 : HandSPX.HeldZ B2 (X.env :: X.outer) a (L2N.Zn cls d) X.env.locals h2 := held_cut hh ⟨oC, hB⟩ sb2.2 b1' (b2 C (by simp))
    refine pass_on (env := ce) (L := X.env.locals) hf hh2 fun h3 hh3 up3 => tk _ _ ⟨a, B2, { sI with heap := G }, pins, σ, H1, cls, d, rfl, ?_, fun b o hb hnf => ?_, fun b o hb hnf => ?_, ?_, na, os, ag, hW _ _ _ _ _ w⟩
    · exact Ix.turned (t' := sI.toks) (fun b o hb z => (g1' b hb).trans z) f0 f1 f3 f4 f5
    · by_cases z : b = C
      · rw [z] at hb
        rw [g2 C (by simp)] at hb
        cases hb
      · rw [b1' b z]
        exact nb b o ((g1' b z).symm.trans hb) hnf
    · by_cases z : b = C
      · rw [z] at hb
        rw [g2 C (by simp)] at hb
        cases hb
      · obtain ⟨y1, e1⟩ := up b o ((g1' b z).symm.trans hb) hnf
        obtain ⟨y2, e2⟩ := up1 b _ e1 hnf
        obtain ⟨y3, e3⟩ := up3 b _ ((sb2.2 b z).trans e2) hnf
        exact ⟨y3, e3⟩
    · rw [hs]
      exact .inr (.inr hh3)
  have loop : codeAny (model X.prog X.w) X.A (.compLoop (.ListComp elt [⟨tg, iter, ifs, 0⟩] scope pos) 0 (.ref it) (.ref D) ce) (blkEnd (model X.prog X.w) X.A X.xe use Qf (.ref D) ce) sd := by
    refine compLoop_any (fun n s' => ∃ i H', Inv Y [] (wipe σ (own.map (·.2))) H' s' ∧ tn i s'.heap ∧ (∀ b ∈ wr, H' b = none) ∧ Wt i n H') ?_ m0 ⟨0, Hc, Id, std, nw, w0⟩
    rintro n s5 ⟨i, H5, I5, st5, n5, w5⟩
    rcases turn i n H5 w5 with ⟨stop, fin⟩ | ⟨go, Nx, hNx, step⟩
    · refine thnF (T.done Y rfl rfl rfl hc i [] s5 _ H5 (fun _ _ => False) I5 (still I5 n5) st5 stop) fun r s6 hr => ?_
      obtain ⟨rfl, I6⟩ := hr
      obtain ⟨I7, ⟨m, hn⟩, fC⟩ := back I6
      exact hend D C s6 m H5 I7 fin hn fC ce rfl
    · refine thnF (T.item Y rfl rfl rfl hc i [] s5 _ H5 (fun _ _ => False) I5 (still I5 n5) st5 go) fun r s6 hr => ?_
      obtain ⟨u, rfl, h6⟩ := hr
      refine thnF h6 fun _ s7 h7 => ?_
      obtain ⟨x, H7, I7, r7, y7, st7, n7⟩ := h7
      have I7' := I7.pinned (still I7 n7) (T.obj _ _ st7)
      refine wpAny_mono (pg.run _ s7 _ H7 x u _ I7' r7 (step x H7 y7)) (fun _ s8 h8 => ?_) fun e s8 z => out e s8 z
      obtain ⟨σ8, H8, I8, hw8, q8⟩ := h8
      refine wpAny_mono (pt.run _ s8 σ8 H8 _ I8 q8) (fun b s9 h9 => ?_) fun e s9 z => out e s9 z
      obtain ⟨H9, I9, q9⟩ := h9
      have next : ∀ {s' : Shared} {H' : Hp}, Inv Y ([] ++ pinsAt wr s7.heap) σ8 H' s' → Nx H' → ∃ m, m < n ∧ ∃ i H', Inv Y [] (wipe σ (own.map (·.2))) H' s' ∧ tn i s'.heap ∧ (∀ b ∈ wr, H' b = none) ∧ Wt i m H' := fun {s' H'} I' nx => by
        obtain ⟨m', lt, w'⟩ := hNx H' nx
        have stays : ∀ b ∈ wr, ∀ o, s7.heap.get? b = some o → s'.heap.get? b = some o ∧ H' b = none := fun b hb o z => by
          have z' := I'.pin (b, o) (List.mem_append_right _ (List.mem_append_right _ (mem_pinsAt hb z)))
          exact ⟨z'.1, z'.2.1⟩
        refine ⟨m', lt, i + 1, H', (I'.unpinned (pins := [])).weak (by rw [← hw8, wipe_length]) (fun j v z => ?_), T.keep _ _ _ st7 fun b hb o z => (stays b hb o z).1, fun b hb => ?_, w'⟩
        · rw [← hw8] at z
          exact (wipe_some z).1
        · obtain ⟨o, z, _⟩ := T.obj _ _ st7 b hb
          exact (stays b hb o z).2
      cases b with
      | false =>
        simp only [Bool.false_eq_true, if_false] at q9 ⊢
        exact next I9 q9
      | true =>
        simp only [if_true] at q9 ⊢
        refine wpAny_mono (pe.run _ s9 σ8 H9 _ I9 q9) (fun z s10 h10 => ?_) fun e s10 z => out e s10 z
        obtain ⟨yv, H10, I10, r10, acc, hD10, hz10, nx⟩ := h10
        exact app_ok (X := Y) I10 hD10 hz10 r10 fun s11 I11 => next I11 nx
  exact codeAny_compStart_list loop (T.self X.A 0 _ _ _ std loop)
theorem ps_setLcE {i : Nat} {y : Str} {py : Pos} {elt tg iter : Expr} {ifs : List Expr} {scope : Scope} {own : List (Str × Nat)} {pos spos : Pos} {wi : TI} {g : TG} {tt : TT} {te : TE}
    (hs : X.stack = X.env :: X.outer) (hf : X.env.frame = some X.env.locals) (tk : L2N.Takes X W) (hW : ∀ c d σ σ' H, W c d σ H → W c d σ' H) (hc : X.calm = true) (hN : X.N.Nodup) (hy : X.N[i]? = some y) (hyl : X.env.scope.names.lookup y = some .local)
    (hsw : swapsWith (.ListComp elt [⟨tg, iter, ifs, 0⟩] scope pos) (some (.Name y py)) spos.line X.env = pure true) (hi : PI X tg iter wi) (ok : BlkOk X.N X.env.scope scope own)
    (hg : ∀ s H C cl wr xe, L2N.Takes (blkX X s H scope (compEnvC scope cl C X.env) wr xe) W → PG (blkX X s H scope (compEnvC scope cl C X.env) wr xe) tg g)
    (ht : ∀ s H C cl wr xe, L2N.Takes (blkX X s H scope (compEnvC scope cl C X.env) wr xe) W → PTs (blkX X s H scope (compEnvC scope cl C X.env) wr xe) ifs tt)
    (he : ∀ s H C cl wr xe, L2N.Takes (blkX X s H scope (compEnvC scope cl C X.env) wr xe) W → PE (blkX X s H scope (compEnvC scope cl C X.env) wr xe) elt te)
    (hfs : ∀ x, foldedSetIterable iter X.env x = pure x := by intro _; rfl) :
    PS X (.Assign [.Name y py] (.ListComp elt [⟨tg, iter, ifs, 0⟩] scope pos) spos) (tAsg (tLc wi g tt te (own.map (·.2))) (gName i)) := by
  refine ⟨fun pins s σ H D I q => ?_⟩
  have q' : tLc wi g tt te (own.map (·.2)) σ H (fun x H1 => gName i x σ H1 D.nx) := q
  rw [exec_Assign_Name_used _ _ _ _ hsw]
  refine wpAny_bind (wpAny_standAt (wpAny_bind (wpAny_bind ?_)))
  refine thn (lc_coreE (Qf := fun _ s' => SP X pins D .next s') hc hN hs hf tk hW I hi ok hg ht he hfs q' fun L C s1 m H1 I1 w hn fC ce eC => ?_) fun _ s2 hq => wpAny_pure (wpAny_pure hq)
  show wpAny _ _ (assign (.Name y py) X.env (.ref L)) _ _ _
  subst eC
  refine wpAny_assign_Name (store_ok2 (v := V.ref L) I1 hN hy (.inl hyl) rfl (fun s2 I2 hsb => ?_) (.inr hyl))
  obtain ⟨a, sb, ha⟩ := hsb
  obtain ⟨f0, f1, f2, f3, f4, f5⟩ := fC
  have ne : ce.locals ≠ a := ha.elim (fun z => by rw [z]; exact f1) fun z e => f4 y a z e.symm
  exact ⟨m, hn.sameBut sb ne, fun h3 sb3 => ⟨_, H1, I2.turned (t' := s2.toks) (fun b o hb e => (sb3.2 b hb).trans e) f0 f1 f3 f4 f5, w⟩⟩
theorem pe_lcE {elt tg iter : Expr} {ifs : List Expr} {scope : Scope} {own : List (Str × Nat)} {pos : Pos} {wi : TI} {g : TG} {tt : TT} {te : TE}
    (hs : X.stack = X.env :: X.outer) (hf : X.env.frame = some X.env.locals) (tk : L2N.Takes X W) (hW : ∀ c d σ σ' H, W c d σ H → W c d σ' H) (hc : X.calm = true) (hN : X.N.Nodup) (hi : PI X tg iter wi) (ok : BlkOk X.N X.env.scope scope own)
    (hg : ∀ s H C cl wr xe, L2N.Takes (blkX X s H scope (compEnvC scope cl C X.env) wr xe) W → PG (blkX X s H scope (compEnvC scope cl C X.env) wr xe) tg g)
    (ht : ∀ s H C cl wr xe, L2N.Takes (blkX X s H scope (compEnvC scope cl C X.env) wr xe) W → PTs (blkX X s H scope (compEnvC scope cl C X.env) wr xe) ifs tt)
    (he : ∀ s H C cl wr xe, L2N.Takes (blkX X s H scope (compEnvC scope cl C X.env) wr xe) W → PE (blkX X s H scope (compEnvC scope cl C X.env) wr xe) elt te)
    (hfs : ∀ x, foldedSetIterable iter X.env x = pure x := by intro _; rfl) : PE X (.ListComp elt [⟨tg, iter, ifs, 0⟩] scope pos) (tLc wi g tt te (own.map (·.2))) := by
  refine ⟨fun pins s σ H Q I q => ?_⟩
  rw [eval_ListComp]
  refine lc_coreE hc hN hs hf tk hW I hi ok hg ht he hfs q fun L C s1 m H1 I1 w hn fC ce eC => ?_
  subst eC
  obtain ⟨f0, f1, f2, f3, f4, f5⟩ := fC
  exact ⟨m, hn, fun h3 sb3 => ⟨.ref L, H1, I1.turned (t' := s1.toks) (fun b o hb e => (sb3.2 b hb).trans e) f0 f1 f3 f4 f5, rfl, w⟩⟩
end
end Tw
/-! TwDA: a dict whose keys are tuples within tuples: what stands in the ghost heap, what is asked of it. -/
namespace Tw
open PySem PySem.Spec PyProof.Rows L2
/-! ### keys -/
mutual
inductive KG (H : Hp) : NestedKey → V → Prop
  | non : KG H .none .non
  | int (i : Int) : KG H (.num i) (.int i)
  | str (x : Str) : KG H (.text x) (.str x)
  | tup {a : Addr} {vs : List V} {ks : List NestedKey} : H a = some (.tup vs) → KGL H ks vs → KG H (.tup ks) (.ref a)
inductive KGL (H : Hp) : List NestedKey → List V → Prop
  | nil : KGL H [] []
  | cons {k : NestedKey} {ks : List NestedKey} {v : V} {vs : List V} : KG H k v → KGL H ks vs → KGL H (k :: ks) (v :: vs)
end
mutual
theorem KG.mono {H H' : Hp} (e : Ex H H') : ∀ {k : NestedKey} {v : V}, KG H k v → KG H' k v
  | _, _, .non => .non
  | _, _, .int i => .int i
  | _, _, .str x => .str x
  | _, _, .tup h r => .tup (e _ _ h) (KGL.mono e r)
theorem KGL.mono {H H' : Hp} (e : Ex H H') : ∀ {ks : List NestedKey} {vs : List V}, KGL H ks vs → KGL H' ks vs
  | _, _, .nil => .nil
  | _, _, .cons h r => .cons (KG.mono e h) (KGL.mono e r)
end
mutual
def nkD : D → Option NestedKey
  | .non => some .none
  | .int i => some (.num i)
  | .str x => some (.text x)
  | .tup ds => (nkL ds).map .tup
  | _ => none
def nkL : List D → Option (List NestedKey)
  | [] => some []
  | d :: ds => match nkD d, nkL ds with
    | some k, some ks => some (k :: ks)
    | _, _ => none
end
mutual
theorem nk_rep {K : PySem.W.Frag} {A : Ad} {F : Hp} : ∀ (d : D) {k : NestedKey} {v : V}, nkD d = some k → Rep K A F v d → KG F k v
  | .non, k, v, h, r => by cases h; cases r; exact .non
  | .int i, k, v, h, r => by cases h; cases r; exact .int i
  | .str x, k, v, h, r => by cases h; cases r; exact .str x
  | .tup ds, k, v, h, r => by
    unfold nkD at h
    obtain ⟨ks, e, rfl⟩ := Option.map_eq_some_iff.mp h
    cases r with
    | tup h1 h2 => exact .tup h1 (nkL_rep ds e h2)
  | .bl b, k, v, h, r => by cases h
  | .lst ds, k, v, h, r => by cases h
  | .obj c ds, k, v, h, r => by cases h
  | .scr ns, k, v, h, r => by cases h
  | .ord ks, k, v, h, r => by cases h
theorem nkL_rep {K : PySem.W.Frag} {A : Ad} {F : Hp} : ∀ (ds : List D) {ks : List NestedKey} {vs : List V}, nkL ds = some ks → RepL K A F vs ds → KGL F ks vs
  | [], ks, vs, h, r => by cases h; cases r; exact .nil
  | d :: ds, ks, vs, h, r => by
    unfold nkL at h
    cases r with
    | cons r1 r2 =>
      cases e1 : nkD d with
      | none => rw [e1] at h; cases h
      | some k =>
        rw [e1] at h
        cases e2 : nkL ds with
        | none => rw [e2] at h; cases h
        | some ks' =>
          rw [e2] at h
          cases h
          exact .cons (nk_rep d e1 r1) (nkL_rep ds e2 r2)
end
mutual
theorem KG.is {P : Program} {w : World} {H : Hp} {h : Heap} (hok : HOk P w H h) : ∀ {k : NestedKey} {v : V} {u : Value}, KG H k v → RelV v u → NestedIs h k u
  | _, _, _, .non, r => by cases r; exact .none
  | _, _, _, .int i, r => by obtain ⟨t, rfl⟩ := r; exact .int i t
  | _, _, _, .str x, r => by obtain ⟨t, rfl⟩ := r; exact .text x t
  | _, _, _, .tup (a := a) (vs := vs) e l, r => by
    cases r
    have z : ObjOk P w H h a (.tup vs) := hok a _ e
    obtain ⟨_, its, rv, o, ho, hc, n, hd⟩ := z
    exact .tup ho hc hd (KGL.is hok l rv)
theorem KGL.is {P : Program} {w : World} {H : Hp} {h : Heap} (hok : HOk P w H h) : ∀ {ks : List NestedKey} {vs : List V} {us : List Value}, KGL H ks vs → Vals vs us → NestedAll h ks us
  | _, _, _, .nil, r => by cases r; exact .nil
  | _, _, _, .cons a b, r => by
    cases r with
    | cons r1 r2 => exact .cons (KG.is hok a r1) (KGL.is hok b r2)
end
/-! ### the dict in the ghost heap -/
abbrev NX := List (NestedKey × Addr × V)
abbrev NR := List (NestedKey × Addr × Value)
def RawN : NX → NR → Prop := Paired fun p q => p.1 = q.1 ∧ p.2.1 = q.2.1 ∧ RelV p.2.2 q.2.2
def ndP (P : Program) (w : World) (d : Addr) (xs : NX) (h : Heap) : Prop := (d == sysModules) = false ∧ xs.length ≤ 100000 ∧ ∃ raw : NR, RawN xs raw ∧
  ∃ o es ep, h.get? d = some o ∧ o.ExactDict ∧ o.data = .dict es ep ∧ es.toList = raw.map (entryOfKey (nestedKind P w)) ∧ (raw.map (·.1)).Nodup
def ndo (P : Program) (w : World) (d : Addr) (xs : NX) : HO := .ext (ndP P w d xs)
theorem ndo_own {P : Program} {w : World} {d x : Addr} {xs : NX} : ndo P w d xs ≠ .own x := fun z => by
  have z' : HO.ext _ = HO.own x := z
  cases z'
theorem ndo_tup {P : Program} {w : World} {d : Addr} {xs : NX} {vs : List V} : ndo P w d xs ≠ .tup vs := fun z => by
  have z' : HO.ext _ = HO.tup vs := z
  cases z'
theorem ndo_lst {P : Program} {w : World} {d : Addr} {xs : NX} {vs : List V} : ndo P w d xs ≠ .lst vs := fun z => by
  have z' : HO.ext _ = HO.lst vs := z
  cases z'
theorem ndo_ok {P : Program} {w : World} {H : Hp} {h : Heap} {d : Addr} {xs : NX} (q : ndP P w d xs h) : ObjOk P w H h d (ndo P w d xs) := by
  refine ⟨q, ?_, fun h1 h2 z k => ?_⟩
  · obtain ⟨_, _, raw, _, o, es, ep, ho, _⟩ := q
    exact ⟨o, ho⟩
  · obtain ⟨z1, z2, raw, z3, o, es, ep, ho, r⟩ := z
    exact ⟨z1, z2, raw, z3, o, es, ep, k o ho, r⟩
theorem ndo_at {P : Program} {w : World} {H : Hp} {h : Heap} {d : Addr} {xs : NX} (hok : HOk P w H h) (hd : H d = some (ndo P w d xs)) : ndP P w d xs h := by
  have x : ObjOk P w H h d (.ext (ndP P w d xs)) := hok d _ hd
  exact x.1
def KeysG (H : Hp) (xs : NX) : Prop := ∀ x ∈ xs, KG H x.1 (.ref x.2.1) ∧ x.1.depth ≤ 8
def valN (xs : NX) (k : NestedKey) : Option V := (xs.find? fun x => decide (x.1 = k)).map (·.2.2)
theorem valN_raw {k : NestedKey} : ∀ {xs : NX} {raw : NR}, RawN xs raw → (∀ v, valN xs k = some v → ∃ p, atKey raw k = some p ∧ RelV v p.2) ∧ (valN xs k = none → atKey raw k = none)
  | _, _, .nil => ⟨(fun v h => by cases h), fun _ => rfl⟩
  | x :: xs, y :: raw, .cons ⟨e1, e2, e3⟩ r => by
    obtain ⟨i1, i2⟩ := valN_raw (k := k) r
    unfold valN atKey at i1 i2 ⊢
    rw [List.find?_cons, List.find?_cons, ← e1]
    by_cases q : x.1 = k
    · rw [decide_eq_true q]
      exact ⟨fun v h => by cases h; exact ⟨_, rfl, e3⟩, fun h => by cases h⟩
    · rw [decide_eq_false q]
      exact ⟨i1, i2⟩
theorem RawN.keys : ∀ {xs : NX} {raw : NR}, RawN xs raw → raw.map (fun y => (y.1, y.2.1)) = xs.map fun x => (x.1, x.2.1)
  | _, _, .nil => rfl
  | x :: xs, y :: raw, .cons ⟨e1, e2, e3⟩ r => by rw [List.map_cons, List.map_cons, RawN.keys r, e1, e2]
theorem RawN.app : ∀ {xs : NX} {raw : NR} {k : NestedKey} {a : Addr} {v : V} {u : Value}, RawN xs raw → RelV v u → RawN (xs ++ [(k, a, v)]) (raw ++ [(k, a, u)])
  | _, _, k, a, v, u, .nil, h => .cons ⟨rfl, rfl, h⟩ .nil
  | _, _, k, a, v, u, .cons e r, h => .cons e (RawN.app r h)
section
variable {X : Cx} {pins : List (Addr × Obj)} {σ : L2.St} {H : Hp} {s : Shared} {d a : Addr} {xs : NX} {nk : NestedKey}
/-- the dict as the library tells it -/
theorem nd_lib (I : Inv X pins σ H s) (hd : H d = some (ndo X.prog X.w d xs)) (hk : KeysG H xs) : (d == sysModules) = false ∧ xs.length ≤ 100000 ∧ ∃ raw : NR, RawN xs raw ∧ s.heap.DictOfH (nestedKind X.prog X.w) d raw := by
  obtain ⟨z1, z2, raw, z3, o, es, ep, ho, hx, hdt, he, hn⟩ := ndo_at I.hok hd
  refine ⟨z1, z2, raw, z3, o, es, ep, ho, hx, hdt, he, fun y hy => ?_, hn⟩
  have hm : (y.1, y.2.1) ∈ xs.map fun x => (x.1, x.2.1) := by rw [← z3.keys]; exact List.mem_map.mpr ⟨y, hy, rfl⟩
  obtain ⟨x, hxm, e⟩ := List.mem_map.mp hm
  obtain ⟨k1, k2⟩ := hk x hxm
  injection e with e1 e2
  refine ⟨?_, by rw [← e1]; exact k2⟩
  rw [← e1, ← e2]
  exact KG.is I.hok k1 rfl
theorem nk_lib (I : Inv X pins σ H s) (hk : KG H nk (.ref a)) (hl : nk.depth ≤ 8) : (nestedKind X.prog X.w).is s.heap nk a := ⟨KG.is I.hok hk rfl, hl⟩
end
section
variable {X : Cx}
def rNinN (P : Program) (w : World) : R2 := fun y v H Q => ∃ (d a : Addr) (xs : NX) (nk : NestedKey), v = .ref d ∧ y = .ref a ∧ H d = some (ndo P w d xs) ∧ KeysG H xs ∧ KG H nk (.ref a) ∧ nk.depth ≤ 8 ∧ Q (.bl (!(valN xs nk).isSome)) H
theorem op_ninN (hu : X.A.units + 20 < PySem.cLine) : OpR X (compareOp .NotIn) (rNinN X.prog X.w) := by
  intro pins s σ H y v u w Q I ry rv ⟨d, a, xs, nk, e1, e2, hd, hk, hn, hl, q⟩
  subst e1 e2
  obtain rfl : w = Value.ref d := rv
  obtain rfl : u = Value.ref a := ry
  obtain ⟨z1, z2, raw, z3, z4⟩ := nd_lib I hd hk
  have hr : (nestedKind X.prog X.w).room X.A.in1 := by show X.A.in1.units + 8 < PySem.cLine; first | (have e : X.A.in1.units = X.A.units + 1 := rfl; omega) | (simp only [Around.in1]; omega)
  show wpAny _ _ (do return Value.bool (!(← contains (.ref d) (.ref a)))) _ _ _
  refine wpAny_bind (wpAny_contains_heap hr (nk_lib I hn hl) z1 z4 (wpAny_pure ?_))
  obtain ⟨i1, i2⟩ := valN_raw (k := nk) z3
  have e : (atKey raw nk).isSome = (valN xs nk).isSome := by
    cases hv : valN xs nk with
    | none => rw [i2 hv]; rfl
    | some v => obtain ⟨p, hp, _⟩ := i1 v hv; rw [hp]; rfl
  rw [e]
  exact ⟨.bl (!(valN xs nk).isSome), H, I.tok _, rfl, q⟩
def rIxN (P : Program) (w : World) : R2 := fun x y H Q => ∃ (d a : Addr) (xs : NX) (nk : NestedKey) (v : V), x = .ref d ∧ y = .ref a ∧ H d = some (ndo P w d xs) ∧ KeysG H xs ∧ KG H nk (.ref a) ∧ nk.depth ≤ 8 ∧ valN xs nk = some v ∧ Q v H
def rSetN (P : Program) (w : World) : V → V → V → Hp → (Hp → Prop) → Prop := fun o i v H Q => ∃ (d a : Addr) (xs : NX) (nk : NestedKey), o = .ref d ∧ i = .ref a ∧ H d = some (ndo P w d xs) ∧ KeysG H xs ∧ KG H nk (.ref a) ∧ nk.depth ≤ 8 ∧ valN xs nk = none ∧ xs.length < 100000 ∧ Q (upd H d (ndo P w d (xs ++ [(nk, a, v)])))
theorem set_nd (hu : X.A.units + 20 < PySem.cLine) : PSet X (rSetN X.prog X.w) := by
  intro pins s σ H o i v ov iv u Q I ro ri rv ⟨d, a, xs, nk, e1, e2, hd, hk, hn, hl, hv, hz, q⟩
  subst e1 e2
  obtain rfl : ov = Value.ref d := ro
  obtain rfl : iv = Value.ref a := ri
  obtain ⟨z1, z2, raw, z3, z4⟩ := nd_lib I hd hk
  have hr : (nestedKind X.prog X.w).room X.A.in1 := by show X.A.in1.units + 8 < PySem.cLine; first | (have e : X.A.in1.units = X.A.units + 1 := rfl; omega) | (simp only [Around.in1]; omega)
  have hno := (valN_raw (k := nk) z3).2 hv
  have hlen : raw.length = xs.length := by have := congrArg List.length z3.keys; simpa using this
  refine wpAny_setItem_heap (hsz := by rw [hlen, sizeLine_eq]; omega) hr (nk_lib I hn hl) z4 fun h' hm hs => ?_
  rw [storedH_new hno] at hm
  obtain ⟨o2, es, ep, ho, hx, hdt, he, his, hnd⟩ := hm
  have J : Inv X pins σ (upd H d (ndo X.prog X.w d (xs ++ [(nk, a, v)]))) { s with heap := h', toks := s.toks + (nestedKind X.prog X.w).draws nk } :=
    I.write (x := d) (e := d) (o := ndo X.prog X.w d (xs ++ [(nk, a, v)])) (by rw [hd]; exact True.intro) (.inl rfl) (fun b o3 hb ho3 => (hs.2 b hb).trans ho3) ⟨o2, ho⟩
      (ndo_ok ⟨z1, by rw [List.length_append]; simp; omega, _, z3.app rv, o2, es, ep, ho, hx, hdt, he, hnd⟩)
  exact ⟨_, J, q⟩
def rLenN (P : Program) (w : World) : List V → Hp → VK → Prop := fun vs H Q => ∃ (d : Addr) (xs : NX), vs = [.ref d] ∧ H d = some (ndo P w d xs) ∧ KeysG H xs ∧ Q (.int xs.length) H
theorem call_lenN : CallR X (.builtin "len") (rLenN X.prog X.w) := by
  intro pins s σ H vs us Q I r ⟨d, xs, e, hd, hk, q⟩
  subst e
  obtain ⟨u, rfl, ru⟩ := vals1 r
  cases ru
  obtain ⟨z1, z2, raw, z3, z4⟩ := nd_lib I hd hk
  have hlen : raw.length = xs.length := by have := congrArg List.length z3.keys; simpa using this
  refine call_len_dictH z1 z4 (by rw [hlen]; omega) ?_
  rw [hlen]
  exact ⟨.int xs.length, H, I.tok _, ⟨_, rfl⟩, q⟩
def tDNewN (P : Program) (w : World) : TE := fun _ H Q => ∀ p, H p = none → Q (.ref p) (upd H p (ndo P w p []))
theorem pe_dnewN {pos : Pos} : PE X (.Dict [] [] pos) (tDNewN X.prog X.w) := ⟨fun pins s σ H Q I h =>
  wpAny_Dict_empty ⟨.ref s.heap.objs.size, _, I.laid (a := s.heap.objs.size) (o := ndo X.prog X.w s.heap.objs.size []) (t' := s.toks) (fun _ _ q => Heap.get?_push_of_some _ q) (Nat.le_refl _)
    (ndo_ok ⟨beq_eq_false_iff_ne.mpr (Ne.symm (Nat.ne_of_lt I.big)), Nat.zero_le _, [], .nil, _, #[], 0, Heap.get?_push_size _ rfl, ⟨rfl, rfl, rfl⟩, rfl, rfl, List.nodup_nil⟩), rfl, h _ (I.hok.fresh (Nat.le_refl _))⟩⟩
theorem ix_nd (hu : X.A.units + 20 < PySem.cLine) : IxR X (rIxN X.prog X.w) := by
  intro value slice pins s σ H x y v u Q I rx ry h hs
  obtain ⟨d, a, xs, nk, z, e1, e2, hd, hk, hn, hl, hv, q⟩ := h
  subst e1 e2
  obtain rfl : v = Value.ref d := rx
  obtain rfl : u = Value.ref a := ry
  obtain ⟨z1, z2, raw, z3, z4⟩ := nd_lib I hd hk
  have hr : (nestedKind X.prog X.w).room X.A.in1 := by show X.A.in1.units + 8 < PySem.cLine; first | (have e : X.A.in1.units = X.A.units + 1 := rfl; omega) | (simp only [Around.in1]; omega)
  obtain ⟨p, hp, rp⟩ := (valN_raw (k := nk) z3).1 z hv
  refine tail_any z4.typeIs PySem.F.slot_dict_getitem.lookup (wpAny_getItem_heap hr (nk_lib I hn hl) z4 hp ?_) hs
  exact ⟨z, H, I.tok _, rp, q⟩
end
end Tw
/-! TwDB: statements beside a dict of one's own, whose keys are tuples within tuples and whose values are ints. -/
namespace Tw
open PySem PySem.Spec PyProof.Rows L2
abbrev Kv := List (NestedKey × Int)
def isTupK : NestedKey → Bool
  | .tup _ => true
  | _ => false
def valK (kvs : Kv) (k : NestedKey) : Option Int := (kvs.find? fun x => decide (x.1 = k)).map (·.2)
def relK (F : Hp) : Kv → NX → Prop := Paired fun p x => p.1 = x.1 ∧ x.2.2 = .int p.2 ∧ KG F p.1 (.ref x.2.1) ∧ p.1.depth ≤ 8
theorem relK.mono {F F' : Hp} (e : Ex F F') : ∀ {kvs : Kv} {xs : NX}, relK F kvs xs → relK F' kvs xs
  | _, _, .nil => .nil
  | _, _, .cons ⟨a, b, c, d⟩ r => .cons ⟨a, b, c.mono e, d⟩ (relK.mono e r)
theorem relK.len {F : Hp} : ∀ {kvs : Kv} {xs : NX}, relK F kvs xs → xs.length = kvs.length
  | _, _, .nil => rfl
  | _, _, .cons _ r => by rw [List.length_cons, List.length_cons, relK.len r]
theorem relK.keys {F : Hp} : ∀ {kvs : Kv} {xs : NX}, relK F kvs xs → KeysG F xs
  | _, _, .nil => fun _ h => nomatch h
  | _, _, .cons ⟨a, b, c, d⟩ r => fun x h => by
    rcases List.mem_cons.mp h with rfl | h
    · rw [← a]; exact ⟨c, d⟩
    · exact relK.keys r x h
theorem relK.val {F : Hp} {k : NestedKey} : ∀ {kvs : Kv} {xs : NX}, relK F kvs xs → valN xs k = (valK kvs k).map V.int
  | _, _, .nil => rfl
  | p :: kvs, x :: xs, .cons ⟨a, b, c, d⟩ r => by
    have ih := relK.val (k := k) r
    unfold valN valK at ih ⊢
    rw [List.find?_cons, List.find?_cons, ← a]
    by_cases q : p.1 = k
    · rw [decide_eq_true q]
      simp [b]
    · rw [decide_eq_false q]
      exact ih
theorem relK.app {F : Hp} {k : NestedKey} {a : Addr} {n : Int} (h1 : KG F k (.ref a)) (h2 : k.depth ≤ 8) : ∀ {kvs : Kv} {xs : NX}, relK F kvs xs → relK F (kvs ++ [(k, n)]) (xs ++ [(k, a, .int n)])
  | _, _, .nil => .cons ⟨rfl, rfl, h1, h2⟩ .nil
  | _, _, .cons h r => .cons h (relK.app h1 h2 r)
theorem KeysG.mono {F F' : Hp} {xs : NX} (e : Ex F F') (h : KeysG F xs) : KeysG F' xs := fun x hx => ⟨(h x hx).1.mono e, (h x hx).2⟩
/-- a key by data -/
def keyD (d : D) : Option NestedKey := match nkD d with
  | some k => if isTupK k = true ∧ k.depth ≤ 8 then some k else none
  | none => none
theorem keyD_is {K : PySem.W.Frag} {A : Ad} {F H H0 : Hp} {v : V} {d : D} {k : NestedKey} (h : keyD d = some k) (r : RK K A .bw F H0 H v d) : ∃ a, v = .ref a ∧ KG F k (.ref a) ∧ k.depth ≤ 8 := by
  unfold keyD at h
  split at h
  · rename_i k' e
    split at h
    · rename_i hc
      cases (Option.some.inj h)
      have rr : Rep K A F v d := RK.rep r fun ds z => by rw [z] at e; cases e
      have kg := nk_rep d e rr
      cases kg with
      | non => cases hc.1
      | int i => cases hc.1
      | str x => cases hc.1
      | tup a b => exact ⟨_, rfl, .tup a b, hc.2⟩
    · cases h
  · cases h

/-! ### the frame -/
abbrev Fx.dct (P : Program) (w : World) (x : Fx) (d : Addr) (xs : NX) (F : Hp) : Fx := ⟨x.A, fun _ => .ref d, upd x.B d (ndo P w d xs), F, x.W⟩
def DOk (P : Program) (w : World) (T : Nat → V) (B F0 : Hp) (kvs : Kv) : Prop := ∃ d xs, T 0 = .ref d ∧ B d = some (ndo P w d xs) ∧ relK F0 kvs xs
structure SRD (P : Program) (w : World) (K : PySem.W.Frag) (x : Fx) (d : Addr) (kvs : Kv) (xs : NX) (F H : Hp) (σ : L2.St) (ρ : Ro) : Prop where
  sr : SR K x.A (fun _ => .ref d) (upd x.B d (ndo P w d xs)) x.F0 F H σ ρ
  rel : relK F kvs xs
  bd : x.B d = none
  fd : x.F0 d = none
section
variable {P : Program} {w : World} {K : PySem.W.Frag} {x : Fx} {d : Addr} {kvs kvs' : Kv} {xs xs' : NX} {F H F' H' : Hp} {σ σ' : L2.St} {ρ ρ' : Ro}
theorem SRD.grow (S : SRD P w K x d kvs xs F H σ ρ) (G : Grow F H F' H') : SRD P w K x d kvs xs F' H' σ ρ := ⟨S.sr.grow G, S.rel.mono G.f, S.bd, S.fd⟩
theorem SRD.hd (S : SRD P w K x d kvs xs F H σ ρ) : H d = some (ndo P w d xs) := S.sr.bh _ _ upd_same
theorem SRD.Fd (S : SRD P w K x d kvs xs F H σ ρ) : F d = none := (S.sr.nw _ _ upd_same).trans S.fd
/-- the entry is moved to now, and back -/
theorem SRD.re (S : SRD P w K x d kvs xs F H σ ρ) : SR K x.A (fun _ => .ref d) (upd x.B d (ndo P w d xs)) F F H σ ρ :=
  { S.sr with f0 := .refl _, nw := fun _ _ _ => rfl }
theorem SRD.ok (S : SRD P w K x d kvs xs F H σ ρ) : DOk P w (fun _ => .ref d) (upd x.B d (ndo P w d xs)) F kvs := ⟨d, xs, rfl, upd_same, S.rel⟩
theorem SRD.back (S : SRD P w K x d kvs xs F H σ ρ) (ex : Ex F F') (S' : SR K x.A (fun _ => .ref d) (upd x.B d (ndo P w d xs)) F F' H' σ' ρ') : SRD P w K x d kvs xs F' H' σ' ρ' :=
  ⟨{ S' with f0 := S.sr.f0.trans S'.f0, nw := fun a o h => (S'.nw a o h).trans (S.sr.nw a o h) }, S.rel.mono ex, S.bd, S.fd⟩
theorem SRD.out (S : SRD P w K x d kvs xs F H σ ρ) (G : Grow F (upd x.B d (ndo P w d xs)) F' H') : Grow x.F0 x.B F' H' := by
  have eB : Ex x.B (upd x.B d (ndo P w d xs)) := .new S.bd
  exact ⟨S.sr.f0.trans G.f, eB.trans G.h, G.i, fun a o h => (G.n a o (eB a o h)).trans (S.sr.nw a o (eB a o h))⟩
theorem SRD.put (S : SRD P w K x d kvs xs F H σ ρ) (r : relK F kvs' xs') : SRD P w K x d kvs' xs' F (upd H d (ndo P w d xs')) σ ρ := by
  have Fd := S.Fd
  refine ⟨?_, r, S.bd, S.fd⟩
  refine ⟨fun a o ha => ?_, fun a o ha => ?_, S.sr.f0, fun a o ha => ?_, S.sr.len, S.sr.fz, fun j ds hj => ?_, S.sr.sep, S.sr.tk⟩
  · rw [upd_ne (ne_of_none ha Fd)]; exact S.sr.fh a o ha
  · by_cases q : a = d
    · subst q; rw [upd_same] at ha ⊢; exact ha
    · rw [upd_ne q] at ha ⊢; exact S.sr.bh a o (by rw [upd_ne q]; exact ha)
  · by_cases q : a = d
    · subst q; rw [Fd, S.fd]
    · rw [upd_ne q] at ha; exact S.sr.nw a o (by rw [upd_ne q]; exact ha)
  · obtain ⟨m, vs, h1, h2, h3, h4, h5⟩ := S.sr.ow j ds hj
    have ml : m ≠ d := fun z => by rw [z, upd_same] at h3; cases h3
    exact ⟨m, vs, h1, h2, by rw [upd_ne ml] at h3 ⊢; exact h3, by rw [upd_ne ml]; exact h4, h5⟩
end
def offD (i : Nat) (ρ : Ro) : Option Ro := if noTk (ρ.set i .un) = true then some (ρ.set i .un) else none
section
variable {P : Program} {w : World} {K : PySem.W.Frag} {x : Fx} {d : Addr} {kvs : Kv} {xs : NX} {F H : Hp} {σ : L2.St} {ρ : Ro} {i : Nat}
theorem SRD.off {ρ' : Ro} (S : SRD P w K x d kvs xs F H σ ρ) (h : offD i ρ = some ρ') : SR K x.A x.T x.B x.F0 F H σ ρ' := by
  unfold offD at h
  split at h
  · rename_i hn
    cases (Option.some.inj h)
    have S1 := (S.sr.drop (i := i)).lessB (.new S.bd)
    exact { S1 with tk := fun j n e => (noTk_of hn e).elim }
  · cases h
theorem SRD.start (S : SR K x.A x.T x.B x.F0 F H σ ρ) (hn : noTk ρ = true) (hd : H d = none) : SRD P w K x d [] [] F (upd H d (ndo P w d [])) (σ.set i (some (.ref d))) (ρ.set i (.tk 0)) := by
  have Fd : F d = none := S.fh.free hd
  have Bd : x.B d = none := S.bh.free hd
  refine ⟨?_, .nil, Bd, S.f0.free Fd⟩
  refine ⟨fun a o ha => ?_, fun a o ha => ?_, S.f0, fun a o ha => ?_, by rw [List.length_set, List.length_set, S.len], fun j d hj => ?_, fun j ds hj => ?_, fun j k ds es hne hj hk => ?_, fun j n hj => ?_⟩
  · rw [upd_ne (ne_of_none ha Fd)]; exact S.fh a o ha
  · by_cases q : a = d
    · subst q; rw [upd_same] at ha ⊢; exact ha
    · rw [upd_ne q] at ha ⊢; exact S.bh a o ha
  · by_cases q : a = d
    · subst q; rw [Fd, S.f0.free Fd]
    · rw [upd_ne q] at ha; exact S.nw a o ha
  · rcases set_get hj with ⟨rfl, q⟩ | ⟨q, h'⟩
    · cases q
    · obtain ⟨w, h1, h2⟩ := S.fz j d h'
      exact ⟨w, by rw [List.getElem?_set_ne (Ne.symm q)]; exact h1, h2⟩
  · rcases set_get hj with ⟨rfl, q⟩ | ⟨q, h'⟩
    · cases q
    · obtain ⟨m, vs, h1, h2, h3, h4, h5⟩ := S.ow j ds h'
      have ml : m ≠ d := ne_of_none h4 hd
      exact ⟨m, vs, by rw [List.getElem?_set_ne (Ne.symm q)]; exact h1, h2, by rw [upd_ne ml]; exact h3, by rw [upd_ne ml]; exact h4, h5⟩
  · rcases set_get hj with ⟨rfl, q⟩ | ⟨q, hj'⟩
    · cases q
    · rcases set_get hk with ⟨rfl, q2⟩ | ⟨q2, hk'⟩
      · cases q2
      · rw [List.getElem?_set_ne (Ne.symm q), List.getElem?_set_ne (Ne.symm q2)]
        exact S.sep j k ds es hne hj' hk'
  · rcases set_get hj with ⟨rfl, q⟩ | ⟨q, h'⟩
    · cases q
      have hlt : j < σ.length := by
        have := (List.getElem?_eq_some_iff.mp hj).1
        rw [List.length_set] at this
        rw [S.len]; exact this
      exact List.getElem?_set_self hlt
    · exact (noTk_of hn h').elim
end

/-! ### statements -/
inductive DFl where
  | nx (kvs : Kv) (ρ : Ro) | rt (d : D) | rto (ds : List D) | ex (e : Xn) (kvs : Kv) (ρ : Ro)
abbrev DG := Kv → Ro → Option DFl
section
variable (P : Program) (w : World) (K : PySem.W.Frag) (x : Fx)
def NxtD (d : Addr) (F : Hp) (kvs : Kv) (ρ : Ro) (R : L2.St → Hp → Prop) : Prop := ∀ F' H' σ' xs', Ex F F' → SRD P w K x d kvs xs' F' H' σ' ρ → R σ' H'
def WdD (d : Addr) (fl : DFl) (F : Hp) (E : Ends) : Prop := match fl with
  | .nx kvs ρ => NxtD P w K x d F kvs ρ E.nx
  | .rt v => ∀ F' H' u, Grow x.F0 x.B F' H' → Rep K x.A F' u v → E.rt u H'
  | .rto ds => ∀ F' H' l vs, Grow x.F0 x.B F' H' → x.B l = none → F' l = none → H' l = some (.lst vs) → RepL K x.A F' vs ds → E.rt (.ref l) H'
  | .ex e kvs ρ => NxtD P w K x d F kvs ρ fun σ' H' => ∀ dd, XR H' e dd → x.W (.ref (x.A.xc e.cl)) dd σ' H'
def tDS (g : DG) : TS := fun E σ H => ∃ F ρ d kvs xs fl, SRD P w K x d kvs xs F H σ ρ ∧ g kvs ρ = some fl ∧ WdD P w K x d fl F E
def tDT (c : Kv → Ro → EM Bool) : TT := fun σ H Q => ∃ F ρ d kvs xs r, SRD P w K x d kvs xs F H σ ρ ∧ c kvs ρ = some r ∧ match r with
  | .ok b => ∀ F' H', Grow F H F' H' → Q b H'
  | .error e => ∀ F' H' dd, Grow F H F' H' → XR H' e dd → x.W (.ref (x.A.xc e.cl)) dd σ H'
end
theorem NxtD.mono {P : Program} {w : World} {K : PySem.W.Frag} {x : Fx} {d : Addr} {F F' : Hp} {kvs : Kv} {ρ : Ro} {R : L2.St → Hp → Prop} (e : Ex F F') (h : NxtD P w K x d F kvs ρ R) : NxtD P w K x d F' kvs ρ R := fun F2 H2 σ2 xs2 e2 S => h F2 H2 σ2 xs2 (e.trans e2) S
theorem WdD.mono {P : Program} {w : World} {K : PySem.W.Frag} {x : Fx} {d : Addr} {fl : DFl} {F F' : Hp} {E : Ends} (e : Ex F F') (h : WdD P w K x d fl F E) : WdD P w K x d fl F' E := by
  cases fl with
  | nx kvs ρ => exact NxtD.mono e h
  | rt d => exact h
  | rto ds => exact h
  | ex y kvs ρ => exact NxtD.mono e h
def liftD (g : Kv → Ro → Option Fl) : DG := fun kvs ρ => match g kvs ρ with
  | some (.nx ρ') => some (.nx kvs ρ')
  | some (.rt d) => some (.rt d)
  | some (.rto ds) => some (.rto ds)
  | some (.ex e ρ') => some (.ex e kvs ρ')
  | _ => none
def dsSeq (g1 g2 : DG) : DG := fun kvs ρ => match g1 kvs ρ with
  | some (.nx kvs' ρ') => g2 kvs' ρ'
  | o => o
def toSD {α : Type} (kvs : Kv) (ρ : Ro) (m : EM α) (g : α → Option DFl) : Option DFl := match m with
  | none => none
  | some (.error e) => some (.ex e kvs ρ)
  | some (.ok a) => g a
def whileD (c : Kv → Ro → EM Bool) (g : DG) : Nat → Kv → Ro → Option DFl
  | 0, _, _ => none
  | n + 1, kvs, ρ => toSD kvs ρ (c kvs ρ) fun b => if b = true then match g kvs ρ with
      | some (.nx kvs2 ρ2) => whileD c g n kvs2 ρ2
      | o => o
    else some (.nx kvs ρ)
theorem toSD_imp {α : Type} {kvs : Kv} {ρ : Ro} {m : EM α} {g g' : α → Option DFl} {fl : DFl} (h : ∀ a, g a = some fl → g' a = some fl) (e : toSD kvs ρ m g = some fl) : toSD kvs ρ m g' = some fl := by
  unfold toSD at e ⊢
  split at e
  · cases e
  · exact e
  · exact h _ e
theorem whileD_le (c : Kv → Ro → EM Bool) (g : DG) : ∀ (n m : Nat) (kvs : Kv) (ρ : Ro) (fl : DFl), n ≤ m → whileD c g n kvs ρ = some fl → whileD c g m kvs ρ = some fl
  | 0, _, _, _, _, _, e => by cases e
  | n + 1, 0, _, _, _, h, _ => by omega
  | n + 1, m + 1, kvs, ρ, fl, h, e => by
    unfold whileD at e ⊢
    refine toSD_imp (fun b hb => ?_) e
    cases b with
    | false => exact hb
    | true =>
      simp only [if_true] at hb ⊢
      split at hb
      · exact whileD_le c g n m _ _ _ (by omega) hb
      · exact hb
open Classical in
noncomputable def dsWhile (c : Kv → Ro → EM Bool) (g : DG) : DG := fun kvs ρ => if h : ∃ n fl, whileD c g n kvs ρ = some fl then whileD c g h.choose kvs ρ else none
theorem dsWhile_is {c : Kv → Ro → EM Bool} {g : DG} {n : Nat} {kvs : Kv} {ρ : Ro} {fl : DFl} (e : whileD c g n kvs ρ = some fl) : dsWhile c g kvs ρ = some fl := by
  unfold dsWhile
  have h : ∃ n fl, whileD c g n kvs ρ = some fl := ⟨n, fl, e⟩
  rw [dif_pos h]
  obtain ⟨fl', e'⟩ := h.choose_spec
  rw [e']
  have a := whileD_le c g _ (max n h.choose) kvs ρ fl (Nat.le_max_left _ _) e
  have b := whileD_le c g _ (max n h.choose) kvs ρ fl' (Nat.le_max_right _ _) e'
  rw [a] at b
  exact b.symm
theorem dsWhile_of {c : Kv → Ro → EM Bool} {g : DG} {kvs : Kv} {ρ : Ro} {fl : DFl} (e : dsWhile c g kvs ρ = some fl) : ∃ n, whileD c g n kvs ρ = some fl := by
  unfold dsWhile at e
  split at e
  · exact ⟨_, e⟩
  · cases e
def isK0 (o : Option Ent) : Bool := match o with
  | some (.tk 0) => true
  | _ => false
theorem isK0_eq {o : Option Ent} (h : isK0 o = true) : o = some (.tk 0) := by
  unfold isK0 at h
  split at h
  · rfl
  · cases h
/-- met[k] = v -/
def dsSet (f v : Kv → Ro → EM D) (i : Nat) : DG := fun kvs ρ => if isK0 ρ[i]? = true then toSD kvs ρ (v kvs ρ) fun dv => toSD kvs ρ (f kvs ρ) fun dk => match keyD dk, dv with
  | some k, .int n => if (valK kvs k).isNone = true ∧ kvs.length < 100000 then some (.nx (kvs ++ [(k, n)]) ρ) else none
  | _, _ => none
  else none
/-- met = {}, then the rest -/
def sDct (i : Nat) (g : DG) : Ro → Option Fl := fun ρ => if noTk ρ = true then match g [] (ρ.set i (.tk 0)) with
    | some (.nx _ ρ') => (offD i ρ').map .nx
    | some (.rt d) => some (.rt d)
    | some (.rto ds) => some (.rto ds)
    | some (.ex e _ ρ') => (offD i ρ').map (.ex e)
    | none => none
  else none
section
variable {X : Cx} {x : Fx} {pos : Pos}
theorem pds_of {st : Stmt} {g : Kv → Ro → Option Fl} (h : ∀ kvs T B F0, DOk X.prog X.w T B F0 kvs → PS X st (tS X.K (x.re T B F0) (g kvs))) : PS X st (tDS X.prog X.w X.K x (liftD g)) := by
  refine ⟨fun pins s σ H E I q => ?_⟩
  obtain ⟨F, ρ, d, kvs, xs, fl, S, e, wd⟩ := q
  unfold liftD at e
  refine (h kvs _ _ F S.ok).run pins s σ H E I ?_
  split at e
  · rename_i ρ' eg
    cases (Option.some.inj e)
    exact ⟨F, ρ, _, S.re, eg, fun F' H' σ' ex S' => wd F' H' σ' xs ex (S.back ex S')⟩
  · rename_i v eg
    cases (Option.some.inj e)
    exact ⟨F, ρ, _, S.re, eg, fun F' H' v G r => wd F' H' v (S.out G) r⟩
  · rename_i ds eg
    cases (Option.some.inj e)
    refine ⟨F, ρ, _, S.re, eg, fun F' H' l vs G b0 f0 hl r => wd F' H' l vs (S.out G) ?_ f0 hl r⟩
    cases q : x.B l with
    | none => rfl
    | some o => rw [show (x.re (fun _ => .ref d) (upd x.B d (ndo X.prog X.w d xs)) F).B l = some o from (Ex.new S.bd : Ex x.B _) l o q] at b0; cases b0
  · rename_i y ρ' eg
    cases (Option.some.inj e)
    exact ⟨F, ρ, _, S.re, eg, fun F' H' σ' ex S' dd hx => wd F' H' σ' xs ex (S.back ex S') dd hx⟩
  · cases e
theorem pdt_of {c : Expr} {f : Kv → Ro → EM Bool} (h : ∀ kvs T B F0, DOk X.prog X.w T B F0 kvs → PT X c (tT X.K (x.re T B F0) (f kvs))) : PT X c (tDT X.prog X.w X.K x f) := by
  refine ⟨fun pins s σ H Q I q => ?_⟩
  obtain ⟨F, ρ, d, kvs, xs, r, S, e, wd⟩ := q
  refine (h kvs _ _ F S.ok).run pins s σ H Q I ⟨F, ρ, r, S.re, e, ?_⟩
  cases r with
  | ok b => exact wd
  | error y => exact wd
theorem pds_nil : PSs X [] (tDS X.prog X.w X.K x fun kvs ρ => some (.nx kvs ρ)) := pss_wk pss_nil fun E σ H ⟨F, ρ, d, kvs, xs, fl, S, e, w⟩ => by
  cases (Option.some.inj e)
  exact w F H σ xs (.refl _) S
theorem pds_cons {st : Stmt} {rest : List Stmt} {g1 g2 : DG} (h1 : PS X st (tDS X.prog X.w X.K x g1)) (h2 : PSs X rest (tDS X.prog X.w X.K x g2)) : PSs X (st :: rest) (tDS X.prog X.w X.K x (dsSeq g1 g2)) :=
  pss_wk (pss_cons h1 h2) fun E σ H ⟨F, ρ, d, kvs, xs, fl, S, e, w⟩ => by
    unfold dsSeq at e
    cases eg : g1 kvs ρ with
    | none => rw [eg] at e; cases e
    | some f1 =>
      rw [eg] at e
      cases f1 with
      | nx kvs' ρ' => exact ⟨F, ρ, d, kvs, xs, .nx kvs' ρ', S, eg, fun F' H' σ' xs' ex S' => ⟨F', ρ', d, kvs', xs', fl, S', e, w.mono ex⟩⟩
      | rt d => cases (Option.some.inj e); exact ⟨F, ρ, _, kvs, xs, _, S, eg, w⟩
      | rto d => cases (Option.some.inj e); exact ⟨F, ρ, _, kvs, xs, _, S, eg, w⟩
      | ex y kvs' ρ' => cases (Option.some.inj e); exact ⟨F, ρ, _, kvs, xs, _, S, eg, w⟩
theorem pds_one {st : Stmt} {g : DG} (h : PS X st (tDS X.prog X.w X.K x g)) : PSs X [st] (tDS X.prog X.w X.K x g) := pss_one h
theorem pds_while {c : Expr} {body : List Stmt} {fc : Kv → Ro → EM Bool} {g : DG} (hp : PassesOwn (model X.prog X.w) X.A X.env X.xe) (hc : PT X c (tDT X.prog X.w X.K x fc)) (hb : PSs X body (tDS X.prog X.w X.K x g)) : PS X (.While c body [] pos) (tDS X.prog X.w X.K x (dsWhile fc g)) := ps_wk (ps_while hp hc hb) fun E σ H ⟨F, ρ, d, kvs, xs, fl, S, e, w⟩ => by
  obtain ⟨n0, e0⟩ := dsWhile_of e
  refine ⟨fun m σ' H' => ∃ F2 ρ2 kvs2 xs2, Ex F F2 ∧ SRD X.prog X.w X.K x d kvs2 xs2 F2 H' σ' ρ2 ∧ whileD fc g m kvs2 ρ2 = some fl, ⟨n0, F, ρ, kvs, xs, .refl _, S, e0⟩, ?_⟩
  rintro m σ2 H2 ⟨F2, ρ2, kvs2, xs2, ex, S2, e2⟩
  cases m with
  | zero => cases e2
  | succ m =>
    unfold whileD toSD at e2
    cases ec : fc kvs2 ρ2 with
    | none => rw [ec] at e2; cases e2
    | some r =>
      rw [ec] at e2
      refine ⟨F2, ρ2, d, kvs2, xs2, r, S2, ec, ?_⟩
      cases r with
      | error y =>
        cases (Option.some.inj e2)
        exact fun F' H' dd G hx => w F' H' σ2 xs2 (ex.trans G.f) (S2.grow G) dd hx
      | ok b =>
        refine fun F3 H3 G3 => ?_
        have S3 := S2.grow G3
        cases b with
        | false =>
          refine iteF ?_
          simp only [Bool.false_eq_true, if_false] at e2
          cases (Option.some.inj e2)
          exact w F3 H3 σ2 xs2 (ex.trans G3.f) S3
        | true =>
          refine iteT ⟨fun σ' H' => ∃ F4 ρ4 kvs4 xs4, Ex F F4 ∧ SRD X.prog X.w X.K x d kvs4 xs4 F4 H' σ' ρ4 ∧ whileD fc g m kvs4 ρ4 = some fl, fun σ' H' h => ⟨m, by omega, h⟩, ?_⟩
          simp only [if_true] at e2
          have ex3 := ex.trans G3.f
          cases eg : g kvs2 ρ2 with
          | none => rw [eg] at e2; cases e2
          | some f4 =>
            rw [eg] at e2
            refine ⟨F3, ρ2, d, kvs2, xs2, f4, S3, eg, ?_⟩
            cases f4 with
            | nx kvs4 ρ4 => exact fun F5 H5 σ5 xs5 e5 S5 => ⟨F5, ρ4, kvs4, xs5, ex3.trans e5, S5, e2⟩
            | rt d => cases (Option.some.inj e2); exact w
            | rto d => cases (Option.some.inj e2); exact w
            | ex y kvs4 ρ4 => cases (Option.some.inj e2); exact WdD.mono (fl := .ex y kvs4 ρ4) ex3 w
/-- an expression beside the dict -/
theorem tkD {f : Kv → Ro → EM D} {kvs : Kv} {xs : NX} {F H : Hp} {σ : L2.St} {ρ : Ro} {d : Addr} {E : Ends} {fl : DFl} {Q : VK} {k : Kd} {g : D → Option DFl} (S : SRD X.prog X.w X.K x d kvs xs F H σ ρ) (e : toSD kvs ρ (f kvs ρ) g = some fl) (w : WdD X.prog X.w X.K x d fl F E)
    (hk : ∀ v F' H' u, Grow F H F' H' → SRD X.prog X.w X.K x d kvs xs F' H' σ ρ → RK X.K x.A k F' H H' u v → g v = some fl → WdD X.prog X.w X.K x d fl F' E → Q u H') : ∃ kvs' T B F0, DOk X.prog X.w T B F0 kvs' ∧ tK X.K (x.re T B F0) k (f kvs') σ H Q := by
  refine ⟨kvs, _, _, F, S.ok, ?_⟩
  unfold toSD at e
  cases ef : f kvs ρ with
  | none => rw [ef] at e; cases e
  | some q =>
    rw [ef] at e
    cases q with
    | error y =>
      cases (Option.some.inj e)
      exact ⟨F, ρ, .error y, S.re, ef, fun F' H' dd G hx => w F' H' σ xs G.f (S.grow G) dd hx⟩
    | ok v => exact ⟨F, ρ, .ok v, S.re, ef, fun F' H' u G r' => hk v F' H' u G (S.grow G) r' e (w.mono G.f)⟩
theorem pe_ofD {e : Expr} {f : Kv → Ro → EM D} {k : Kd} (h : ∀ kvs T B F0, DOk X.prog X.w T B F0 kvs → PE X e (tK X.K (x.re T B F0) k (f kvs))) : PE X e (fun σ H Q => ∃ kvs' T B F0, DOk X.prog X.w T B F0 kvs' ∧ tK X.K (x.re T B F0) k (f kvs') σ H Q) :=
  ⟨fun pins s σ H Q I ⟨kvs, T, B, F0, hd, q⟩ => (h kvs T B F0 hd).run pins s σ H Q I q⟩
theorem pds_set {a b c : Expr} {f v : Kv → Ro → EM D} {i : Nat} {st : Stmt} (hst : ∀ te to ti, PE X c te → PE X a to → PE X b ti → PS X st (tAsg te (gSub to ti (rSetN X.prog X.w)))) (ha : PE X a (tVar i)) (hc : ∀ kvs T B F0, DOk X.prog X.w T B F0 kvs → PE X c (tK X.K (x.re T B F0) .bw (v kvs)))
    (hb : ∀ kvs T B F0, DOk X.prog X.w T B F0 kvs → PE X b (tK X.K (x.re T B F0) .bw (f kvs))) : PS X st (tDS X.prog X.w X.K x (dsSet f v i)) :=
  ps_wk (hst _ _ _ (pe_ofD hc) ha (pe_ofD hb)) fun E σ H ⟨F, ρ, d, kvs, xs, fl, S, e, w⟩ => by
    unfold dsSet at e
    split at e
    rotate_left
    · cases e
    rename_i hi
    have hi := isK0_eq hi
    exact tkD S e w fun dv F1 H1 u1 G1 S1 r1 e1 w1 => ⟨.ref d, S1.sr.tk i 0 hi, tkD S1 e1 w1 fun dk F2 H2 u2 G2 S2 r2 e2 w2 => by
      split at e2
      · rename_i k n hk
        split at e2
        · rename_i hc
          cases (Option.some.inj e2)
          obtain ⟨a, ea, kg, hl⟩ := keyD_is hk r2
          have hv : u1 = .int n := rk_int r1
          subst ea hv
          have hl2 := S2.rel.len
          refine ⟨d, a, xs, k, rfl, rfl, S2.hd, fun y hy => ⟨(S2.rel.keys y hy).1.mono S2.sr.fh, (S2.rel.keys y hy).2⟩, kg.mono S2.sr.fh, hl, ?_, by omega, ?_⟩
          · rw [S2.rel.val]
            cases hvk : valK kvs k with
            | none => rfl
            | some z => rw [hvk] at hc; cases hc.1
          · exact w2 F2 _ σ _ (.refl _) (S2.put (S2.rel.app kg hl))
        · cases e2
      · cases e2⟩
theorem pss_dict {rest : List Stmt} {st1 : Stmt} {i : Nat} {g : DG} (h1 : PS X st1 (tAsg (tDNewN X.prog X.w) (gName i))) (hr : PSs X rest (tDS X.prog X.w X.K x g)) : PSs X (st1 :: rest) (tS X.K x (sDct i g)) :=
  pss_wk (pss_cons h1 hr) fun E σ H ⟨F, ρ, fl, S, e, w⟩ => by
    unfold sDct at e
    split at e
    rotate_left
    · cases e
    rename_i hn
    intro d hd
    have S1 := SRD.start (P := X.prog) (w := X.w) (i := i) S hn hd
    split at e
    · rename_i kvs ρ' eg
      cases ho : offD i ρ' with
      | none => rw [ho] at e; cases e
      | some ρ2 =>
        rw [ho] at e
        cases (Option.some.inj e)
        exact ⟨F, _, d, [], [], _, S1, eg, fun F' H' σ' xs' ex S' => w F' H' σ' ex (S'.off ho)⟩
    · rename_i v eg
      cases (Option.some.inj e)
      exact ⟨F, _, d, [], [], _, S1, eg, w⟩
    · rename_i ds eg
      cases (Option.some.inj e)
      exact ⟨F, _, d, [], [], _, S1, eg, w⟩
    · rename_i y kvs ρ' eg
      cases ho : offD i ρ' with
      | none => rw [ho] at e; cases e
      | some ρ2 =>
        rw [ho] at e
        cases (Option.some.inj e)
        exact ⟨F, _, d, [], [], _, S1, eg, fun F' H' σ' xs' ex S' => w F' H' σ' ex (S'.off ho)⟩
    · cases e
/-! ### expressions that read the dict -/
/-- k not in met -/
def eNinK (kvs : Kv) (f : Ro → EM D) (i : Nat) : Ro → EM D := fun ρ => if isK0 ρ[i]? = true then bnd (f ρ) fun dk => match keyD dk with
  | some k => ok (.bl (!(valK kvs k).isSome))
  | none => none
  else none
theorem tk_ninK {T : Nat → V} {B F0 : Hp} {kvs : Kv} {f : Ro → EM D} {i : Nat} (hd : DOk X.prog X.w T B F0 kvs) {σ : L2.St} {H : Hp} {Q : VK} (q : tK X.K (x.re T B F0) .fz (eNinK kvs f i) σ H Q) : tOp (rNinN X.prog X.w) (tK X.K (x.re T B F0) .bw f) (tVar i) σ H Q := by
  obtain ⟨F, ρ, r, S, e, w⟩ := q
  unfold eNinK at e
  split at e
  rotate_left
  · cases e
  rename_i hi
  have hi := isK0_eq hi
  obtain ⟨d, xs, e1, e2, e3⟩ := hd
  exact tk_step S e w.x fun dk F1 H1 v G1 S1 r1 e4 => by
    split at e4
    · rename_i k hk
      cases (Option.some.inj e4)
      obtain ⟨a', ea, kg, hl⟩ := keyD_is hk r1
      subst ea
      have S1f : Ex F0 H1 := S1.f0.trans S1.fh
      refine ⟨.ref d, by rw [S1.tk i 0 hi]; exact congrArg _ (congrArg _ e1), d, a', xs, k, rfl, rfl, S1.bh _ _ e2, (relK.keys e3).mono S1f, kg.mono S1.fh, hl, ?_⟩
      rw [relK.val e3, Option.isSome_map]
      exact w F1 H1 _ G1 (.bl _)
    · cases e4
theorem pk_ninK {T : Nat → V} {B F0 : Hp} {kvs : Kv} {f : Ro → EM D} {a b : Expr} {i : Nat} (hu : X.A.units + 65 < PySem.cLine) (hd : DOk X.prog X.w T B F0 kvs) (ha : PE X a (tK X.K (x.re T B F0) .bw f)) (hv : PE X b (tVar i)) (hm : behindInMarks .NotIn b = false := by rfl) :
    PE X (.Compare a [.NotIn] [b] pos) (tK X.K (x.re T B F0) .fz (eNinK kvs f i)) := pe_wk (pe_cmpR (op_ninN (by omega)) ha hv hm) fun σ H Q q => tk_ninK hd q
theorem pt_ninK {T : Nat → V} {B F0 : Hp} {kvs : Kv} {f : Ro → EM D} {a b : Expr} {i : Nat} (hu : X.A.units + 65 < PySem.cLine) (hd : DOk X.prog X.w T B F0 kvs) (ha : PE X a (tK X.K (x.re T B F0) .bw f)) (hv : PE X b (tVar i)) (hm : behindInMarks .NotIn b = false := by rfl) :
    PT X (.Compare a [.NotIn] [b] pos) (tT X.K (x.re T B F0) (bT (eNinK kvs f i))) := pt_wk (pt_cmpR (op_ninN (by omega)) ha hv hm) fun σ H Q q => by
  have q1 : tTest (tK X.K (x.re T B F0) .bw (eNinK kvs f i)) σ H Q := tt_of q
  have w1 : tK X.K (x.re T B F0) .fz (eNinK kvs f i) σ H fun v H1 => ∃ k, v = .bl k ∧ Q k H1 := by
    obtain ⟨F, ρ, z, S, e, w⟩ := q1
    refine ⟨F, ρ, z, S, e, ?_⟩
    cases z with
    | ok d => exact fun F' H' v G r => w F' H' v G (.inl r)
    | error y => exact w
  exact tk_ninK hd w1
theorem set_nd5 (hu : X.A.units + 65 < PySem.cLine) : PSet X (rSetN X.prog X.w) := set_nd (by omega)
/-- met[k] -/
def eIxK (kvs : Kv) (f : Ro → EM D) (i : Nat) : Ro → EM D := fun ρ => if isK0 ρ[i]? = true then bnd (f ρ) fun dk => match keyD dk with
  | some k => match valK kvs k with
    | some n => ok (.int n)
    | none => none
  | none => none
  else none
theorem pk_ixK {T : Nat → V} {B F0 : Hp} {kvs : Kv} {f : Ro → EM D} {a b : Expr} {i : Nat} (hu : X.A.units + 65 < PySem.cLine) (hs : PlainIx b) (hd : DOk X.prog X.w T B F0 kvs) (hv : PE X a (tVar i)) (hb : PE X b (tK X.K (x.re T B F0) .bw f)) :
    PE X (.Subscript a b pos) (tK X.K (x.re T B F0) .fz (eIxK kvs f i)) := pe_wk (pe_ix (ix_nd (by omega)) hv hb hs) fun σ H Q ⟨F, ρ, r, S, e, w⟩ => by
  unfold eIxK at e
  split at e
  rotate_left
  · cases e
  rename_i hi
  have hi := isK0_eq hi
  obtain ⟨d, xs, e1, e2, e3⟩ := hd
  refine ⟨.ref d, by rw [S.tk i 0 hi]; exact congrArg _ (congrArg _ e1), ?_⟩
  exact tk_step S e w.x fun dk F1 H1 v G1 S1 r1 e4 => by
    split at e4
    · rename_i k hk
      split at e4
      · rename_i n hn
        cases (Option.some.inj e4)
        obtain ⟨a', ea, kg, hl⟩ := keyD_is hk r1
        subst ea
        have S1f : Ex F0 H1 := S1.f0.trans S1.fh
        refine ⟨d, a', xs, k, .int n, rfl, rfl, S1.bh _ _ e2, (relK.keys e3).mono S1f, kg.mono S1.fh, hl, ?_, w F1 H1 _ G1 (.int n)⟩
        rw [relK.val e3, hn]
        rfl
      · cases e4
    · cases e4
/-- len(met) -/
def eLenK (kvs : Kv) (i : Nat) : Ro → EM D := fun ρ => if isK0 ρ[i]? = true then ok (.int kvs.length) else none
theorem pk_lenK {T : Nat → V} {B F0 : Hp} {kvs : Kv} {e : Expr} {i : Nat} {p : Pos} (hm : X.mg "len" = none) (hg : Gl X "len") (hd : DOk X.prog X.w T B F0 kvs) (hv : PE X e (tVar i)) (he : starEach [e] X.env = (false, eval e X.env) :: starEach [] X.env := by rfl) :
    PE X (.Call (.Name "len" p) [e] [] pos) (tK X.K (x.re T B F0) .fz (eLenK kvs i)) := pe_wk (pe_callB call_lenN hg hm PySem.boot_len (pa_cons hv pa_nil he) (he := he)) fun σ H Q ⟨F, ρ, r, S, e, w⟩ => by
  unfold eLenK at e
  split at e
  rotate_left
  · cases e
  rename_i hi
  have hi := isK0_eq hi
  obtain ⟨d, xs, e1, e2, e3⟩ := hd
  cases (Option.some.inj e)
  refine ⟨.ref d, by rw [S.tk i 0 hi]; exact congrArg _ (congrArg _ e1), d, xs, rfl, S.bh _ _ e2, (relK.keys e3).mono (S.f0.trans S.fh), ?_⟩
  rw [relK.len e3]
  exact w F H _ (.refl S.fh) (.int _)
end
end Tw
/-! TwDC: index of a list of nested data. -/
namespace Tw
open PySem PySem.Spec PyProof.Rows L2
def fstP (d : PyData) : List PyData → Option Nat
  | [] => none
  | z :: r => if PyData.eqv z d = true then some 0 else (fstP d r).map (· + 1)
theorem fstP_some {v : PyData} : ∀ {vs : List PyData} {j : Nat}, fstP v vs = some j → (∃ z, vs[j]? = some z ∧ PyData.eqv z v = true) ∧ ∀ (m : Nat) z', m < j → vs[m]? = some z' → PyData.eqv z' v = false
  | [], j, h => by cases h
  | z :: r, j, h => by
    unfold fstP at h
    by_cases q : PyData.eqv z v = true
    · rw [if_pos q] at h
      cases (Option.some.inj h)
      exact ⟨⟨z, rfl, q⟩, fun m z' hm => by omega⟩
    · rw [if_neg q] at h
      obtain ⟨i, hi, rfl⟩ := Option.map_eq_some_iff.mp h
      obtain ⟨⟨z2, h1, h2⟩, h3⟩ := fstP_some hi
      refine ⟨⟨z2, by simpa using h1, h2⟩, fun m z' hm hz => ?_⟩
      cases m with
      | zero =>
        have : z = z' := by simpa using hz
        subst this
        exact Bool.eq_false_iff.mpr q
      | succ m => exact h3 m z' (by omega) (by simpa using hz)
def dIndexD (xs es : List D) : EM D := match es with
  | [e] => if fit e = true ∧ fit (.lst xs) = true then match fstP (py e) (pyL xs) with
    | some j => ok (.int (j : Nat))
    | none => none
    else none
  | _ => none
section
variable {X : Cx} {x : Fx} {o e : Expr} {apos pos : Pos} {g : Ro → EM D} {fs : Ro → EM (List D)}
theorem pk_indexD (hu : X.A.units + 65 < PySem.cLine) (ho : PE X o (tK X.K x .bw g)) (ha : PA X [e] (tA X.K x .bw fs))
    (hbase : attributeBase o "index" X.env (eval o X.env) = eval o X.env := by rfl)
    (hfew : ((backTo pos (starEach [e] X.env)).all (fun x => !x.1) && (backToKw pos (keywordEach [] X.env)).all (fun x => x.1.isSome)
      && decide ([e].length + ([] : List Keyword).length + (if ([] : List Keyword).isEmpty then 0 else 1) < 30)) = true := by rfl)
    (hline : (apos.endLine == pos.line) = true := by rfl) (hs : starEach [e] X.env = (false, eval e X.env) :: starEach [] X.env := by rfl) (hplain : (backTo pos (starEach [] X.env)).any (·.1) = false := by rfl) :
    PE X (.Call (.Attribute o "index" apos) [e] [] pos) (tK X.K x .fz (eLm dIndexD g fs)) :=
  pe_wk (pe_bm PySem.F.plainAttrs_list PySem.F.slot_list_index PySem.F.type_list_index (mt_indexD hu) ho ha hbase hfew hline hs hplain) fun σ H Q ⟨F, ρ, r, S, ee, w⟩ =>
    tk_step S ee w.x fun d F1 H1 v G1 S1 r1 e1 => by
      split at e1
      · rename_i xs
        obtain ⟨a, vs, rfl, h1, q1⟩ := r1.lst S1.fh
        refine ⟨.inl ⟨rfl, _, .of h1⟩, ta_step S1 e1 (fun y hy => Wx.grow (K := X.K) G1 (w.x y hy)) fun ds F2 H2 us G2 S2 r2 e2 => ?_⟩
        unfold dIndexD at e2
        split at e2
        · rename_i d
          split at e2
          · rename_i hf
            split at e2
            · rename_i j hj
              cases (Option.some.inj e2)
              cases r2 with
              | cons ra rb =>
                cases rb
                obtain ⟨⟨z, g1, g2⟩, g3⟩ := fstP_some hj
                have d1 := (r1.grow G2).dp S2.fh hf.2
                unfold py at d1
                have f1 : SeqAt.shaped (.list (pyL xs)) = true := by have := hf.2; unfold fit py at this; exact this
                exact ⟨a, _, _, _, j, z, rfl, rfl, d1, ra.dp S2.fh hf.1, f1, hf.1, g1, g2, g3, w F2 H2 _ (G1.trans G2) (.int _)⟩
            · cases e2
          · cases e2
        · cases e2
      · cases e1
end
end Tw
/-! TwDD: what a call told anew is spoilt: its lists are younger than all else. -/
namespace Tw
open PySem PySem.Spec PyProof.Rows L2
/-- only some slots -/
def only (ks : List Nat) (ρ : Ro) : Ro := ρ.mapIdx fun j e => if ks.contains j then e else .un
theorem only_len (ks : List Nat) (ρ : Ro) : (only ks ρ).length = ρ.length := List.length_mapIdx
theorem only_get {ks : List Nat} {ρ : Ro} {i : Nat} {e : Ent} (h : (only ks ρ)[i]? = some e) : e = .un ∨ (i ∈ ks ∧ ρ[i]? = some e) := by
  unfold only at h
  rw [List.getElem?_mapIdx] at h
  obtain ⟨e', h1, h2⟩ := Option.map_eq_some_iff.mp h
  by_cases q : ks.contains i = true
  · rw [if_pos q] at h2
    exact .inr ⟨by simpa using q, h2 ▸ h1⟩
  · rw [if_neg q] at h2
    exact .inl h2.symm
def isObjL : List D → Bool
  | .obj _ _ :: _ => true
  | _ => false
mutual
/-- no lists but those of objects -/
def ownF : D → Bool
  | .lst xs => isObjL xs && ownFL xs
  | .tup xs => ownFL xs
  | .obj _ xs => ownFL xs
  | .scr _ => false
  | _ => true
def ownFL : List D → Bool
  | [] => true
  | d :: ds => ownF d && ownFL ds
end
def headIns (F : Hp) : List V → Bool
  | .ref u :: _ => match F u with
    | some (.ins _ _ _) => true
    | _ => false
  | _ => false
theorem headIns_ins {F : Hp} {u : Addr} {vs : List V} (h : headIns F (.ref u :: vs) = true) : ∃ c dx fs, F u = some (.ins c dx fs) := by
  have h : (match F u with
    | some (.ins _ _ _) => true
    | _ => false) = true := h
  cases e : F u with
  | none => rw [e] at h; cases h
  | some o =>
    rw [e] at h
    cases o with
    | ins c dx fs => exact ⟨_, _, _, rfl⟩
    | _ => cases h
def keepO (F : Hp) : Hp := fun a => match F a with
  | some (.lst vs) => if headIns F vs = true then some (.lst vs) else none
  | o => o
theorem keepO_ex (F : Hp) : Ex (keepO F) F := fun a o h => by
  unfold keepO at h
  split at h
  · rename_i vs e
    split at h
    · rw [e]; exact h
    · cases h
  · exact h
theorem keepO_lst {F : Hp} {a : Addr} {vs : List V} (h : keepO F a = some (.lst vs)) : headIns F vs = true := by
  unfold keepO at h
  split at h
  · split at h
    · rename_i q
      cases h
      exact q
    · cases h
  · rename_i q
    exact absurd h (q vs)
section
variable {K : PySem.W.Frag} {A : Ad} {T : Nat → V} {F F' H H' : Hp}
theorem keepO_of {a : Addr} {o : HO} (h : F a = some o) (hn : ∀ vs, o ≠ .lst vs) : keepO F a = some o := by
  unfold keepO
  split
  · rename_i vs e
    rw [h] at e
    exact absurd (Option.some.inj e) (hn vs)
  · exact h
mutual
theorem keep_rep : ∀ {v : V} {d : D}, Rep K A F v d → ownF d = true → Rep K A (keepO F) v d
  | _, _, .non, _ => .non
  | _, _, .bl b, _ => .bl b
  | _, _, .int i, _ => .int i
  | _, _, .str x, _ => .str x
  | _, _, .lst (a := a) (vs := vs) (ds := ds) h r, q => by
    unfold ownF at q
    rw [Bool.and_eq_true] at q
    refine .lst ?_ (keep_repL r q.2)
    unfold keepO
    rw [h]
    dsimp only
    rw [if_pos]
    cases r with
    | nil => exact absurd q.1 Bool.false_ne_true
    | cons r0 rr =>
      cases r0 with
      | obj g h2 l r2 =>
        simp only [headIns, h2]
      | non => exact absurd q.1 Bool.false_ne_true
      | bl b => exact absurd q.1 Bool.false_ne_true
      | int b => exact absurd q.1 Bool.false_ne_true
      | str b => exact absurd q.1 Bool.false_ne_true
      | lst _ _ => exact absurd q.1 Bool.false_ne_true
      | tup _ _ => exact absurd q.1 Bool.false_ne_true
      | scr _ => exact absurd q.1 Bool.false_ne_true
      | ord _ => exact absurd q.1 Bool.false_ne_true
  | _, _, .tup h r, q => .tup (keepO_of h fun _ z => nomatch z) (keep_repL r (by unfold ownF at q; exact q))
  | _, _, .obj g h l r, q => .obj g (keepO_of h fun _ z => nomatch z) l (keep_repL r (by unfold ownF at q; exact q))
  | _, _, .scr h, q => by unfold ownF at q; cases q
  | _, _, .ord h, q => .ord (keepO_of h fun _ z => nomatch z)
theorem keep_repL : ∀ {vs : List V} {ds : List D}, RepL K A F vs ds → ownFL ds = true → RepL K A (keepO F) vs ds
  | _, _, .nil, _ => .nil
  | _, _, .cons h r, q => by
    unfold ownFL at q
    rw [Bool.and_eq_true] at q
    exact .cons (keep_rep h q.1) (keep_repL r q.2)
end
/-! ### what is told: rows of texts -/
def isStrD : D → Bool
  | .str _ => true
  | _ => false
def rowD (d : D) : Bool := match d with
  | .lst xs => xs.all isStrD && decide (xs.length ≤ 1000)
  | _ => false
def outD (d : D) : Bool := match d with
  | .lst xs => xs.all rowD && decide (xs.length ≤ 1000)
  | _ => false
def spoilD (d : D) : Bool := match d with
  | .tup [a, b] => outD a && (match b with
    | .non => true
    | b => outD b)
  | _ => false
theorem strs_rep : ∀ {vs : List V} {ds : List D}, RepL K A F vs ds → ds.all isStrD = true → ∃ xs : List Str, vs = xs.map V.str ∧ ds = xs.map D.str
  | _, _, .nil, _ => ⟨[], rfl, rfl⟩
  | _, _, .cons (d := d) h r, q => by
    rw [List.all_cons, Bool.and_eq_true] at q
    obtain ⟨xs, e1, e2⟩ := strs_rep r q.2
    cases h with
    | str x => exact ⟨x :: xs, by rw [e1]; rfl, by rw [e2]; rfl⟩
    | non => cases q.1
    | bl b => cases q.1
    | int b => cases q.1
    | lst _ _ => cases q.1
    | tup _ _ => cases q.1
    | obj _ _ _ _ => cases q.1
    | scr _ => cases q.1
    | ord _ => cases q.1
theorem row_rep {v : V} {d : D} (h : Rep K A F v d) (q : rowD d = true) : ∃ a, ∃ xs : List Str, v = .ref a ∧ F a = some (.lst (xs.map V.str)) ∧ d = .lst (xs.map D.str) ∧ xs.length ≤ 1000 := by
  unfold rowD at q
  split at q
  · rw [Bool.and_eq_true] at q
    cases h with
    | lst h r =>
      obtain ⟨xs, e1, e2⟩ := strs_rep r q.1
      have q2 := of_decide_eq_true q.2
      rw [e2, List.length_map] at q2
      exact ⟨_, xs, rfl, by rw [h, e1], by rw [e2], q2⟩
  · cases q
theorem no_head {xs : List Str} : headIns F (xs.map V.str) = false := by cases xs <;> rfl
theorem row_new (fh : Ex F H) (G : Grow (keepO F) H F' H') {a : Addr} {xs : List Str} (h : F' a = some (.lst (xs.map V.str))) : H a = none := by
  cases e : H a with
  | none => rfl
  | some o =>
    have := G.n a o e
    rw [this] at h
    have := keepO_lst h
    rw [no_head] at this
    cases this
theorem out_rep {v : V} {d : D} (h : Rep K A F v d) (q : outD d = true) : ∃ a vs xs, v = .ref a ∧ F a = some (.lst vs) ∧ d = .lst xs ∧ RepL K A F vs xs ∧ xs.all rowD = true ∧ xs.length ≤ 1000 := by
  unfold outD at q
  split at q
  · rw [Bool.and_eq_true] at q
    cases h with
    | lst h r => exact ⟨_, _, _, rfl, h, rfl, r, q.1, of_decide_eq_true q.2⟩
  · cases q
theorem out_new (fh : Ex F H) (G : Grow (keepO F) H F' H') {a : Addr} {vs : List V} {xs : List D} (h : F' a = some (.lst vs)) (r : RepL K A F' vs xs) (q : xs.all rowD = true) : H a = none := by
  cases e : H a with
  | none => rfl
  | some o =>
    have := G.n a o e
    rw [this] at h
    have hh := keepO_lst h
    cases r with
    | nil => exact absurd hh Bool.false_ne_true
    | cons r0 rr =>
      rw [List.all_cons, Bool.and_eq_true] at q
      obtain ⟨b, ys, rfl, h2, _, _⟩ := row_rep r0 q.1
      obtain ⟨c, dx, fs, e3⟩ := headIns_ins hh
      have e4 := G.i b _ h2
      have e5 := G.h b _ (fh b _ e3)
      rw [e4] at e5
      cases e5
/-- what is younger than H, and what is no list -/
def young (H F : Hp) : Hp := fun a => match F a with
  | some (.lst vs) => match H a with
    | none => some (.lst vs)
    | some _ => none
  | o => o
theorem young_ex (H F : Hp) : Ex (young H F) F := fun a o h => by
  unfold young at h
  split at h
  · rename_i vs e
    split at h
    · rw [e]; exact h
    · cases h
  · exact h
theorem young_lst {a : Addr} {vs : List V} (h : young H F a = some (.lst vs)) : H a = none := by
  unfold young at h
  split at h
  · split at h
    · assumption
    · cases h
  · rename_i q
    exact absurd h (q vs)
theorem young_of {a : Addr} {vs : List V} (h : F a = some (.lst vs)) (h2 : H a = none) : young H F a = some (.lst vs) := by
  unfold young
  rw [h]
  dsimp only
  rw [h2]
theorem young_tup {a : Addr} {vs : List V} (h : F a = some (.tup vs)) : young H F a = some (.tup vs) := by
  unfold young
  rw [h]
theorem strsL {xs : List Str} : RepL K A F (xs.map V.str) (xs.map D.str) := by
  induction xs with
  | nil => exact .nil
  | cons x xs ih => exact .cons (.str x) ih
theorem young_row (fh : Ex F H) (G : Grow (keepO F) H F' H') {v : V} {d : D} (h : Rep K A F' v d) (q : rowD d = true) : Rep K A (young H F') v d := by
  obtain ⟨a, xs, rfl, h1, rfl, _⟩ := row_rep h q
  exact .lst (young_of h1 (row_new fh G h1)) strsL
theorem young_rows (fh : Ex F H) (G : Grow (keepO F) H F' H') : ∀ {vs : List V} {ds : List D}, RepL K A F' vs ds → ds.all rowD = true → RepL K A (young H F') vs ds
  | _, _, .nil, _ => .nil
  | _, _, .cons h r, q => by
    rw [List.all_cons, Bool.and_eq_true] at q
    exact .cons (young_row fh G h q.1) (young_rows fh G r q.2)
theorem young_out (fh : Ex F H) (G : Grow (keepO F) H F' H') {v : V} {d : D} (h : Rep K A F' v d) (q : outD d = true) : Rep K A (young H F') v d := by
  obtain ⟨a, vs, xs, rfl, h1, rfl, r, q1, _⟩ := out_rep h q
  exact .lst (young_of h1 (out_new fh G h1 r q1)) (young_rows fh G r q1)
theorem spoil_rep (fh : Ex F H) (G : Grow (keepO F) H F' H') {v : V} {d : D} (h : Rep K A F' v d) (q : spoilD d = true) :
    Rep K A (young H F') v d ∧ ∃ t a0 w vs, v = .ref t ∧ F' t = some (.tup [.ref a0, w]) ∧ F' a0 = some (.lst vs) ∧ vs.length ≤ 1000 ∧ H a0 = none := by
  unfold spoilD at q
  split at q
  · rename_i a b
    rw [Bool.and_eq_true] at q
    cases h with
    | tup ht r =>
      cases r with
      | cons ra rr =>
        cases rr with
        | cons rb rn =>
          cases rn
          obtain ⟨a0, vs, xs, rfl, h1, rfl, r1, q1, q2⟩ := out_rep ra q.1
          refine ⟨.tup (young_tup ht) (.cons (young_out fh G ra q.1) (.one ?_)), _, _, _, vs, rfl, ht, h1, by rw [r1.length]; exact q2, out_new fh G h1 r1 q1⟩
          have q3 := q.2
          cases b with
          | non => cases rb; exact .non
          | bl _ => cases q3
          | int _ => cases q3
          | str _ => cases q3
          | lst _ => exact young_out fh G rb q3
          | tup _ => cases q3
          | obj _ _ => cases q3
          | scr _ => cases q3
          | ord _ => cases q3
  · cases q
end
section
variable {K : PySem.W.Frag} {A : Ad} {T : Nat → V} {B F0 F F' H H' : Hp} {σ : L2.St} {ρ : Ro}
/-- a frame of frozen slots alone -/
theorem SR.solo (fh : Ex F H) (len : σ.length = ρ.length) (hz : ∀ (i : Nat) e, ρ[i]? = some e → e = .un ∨ ∃ d v, e = .fz d ∧ σ[i]? = some (some v) ∧ Rep K A F v d) : SR K A T H F F H σ ρ where
  fh := fh
  bh := .refl _
  f0 := .refl _
  nw := fun _ _ _ => rfl
  len := len
  fz := fun i d e => by
    rcases hz i _ e with z | ⟨d', v, z, h1, h2⟩
    · cases z
    · cases z; exact ⟨v, h1, h2⟩
  ow := fun i d e => by
    rcases hz i _ e with z | ⟨d', v, z, h1, h2⟩ <;> cases z
  sep := fun i j d e _ h1 _ => by
    rcases hz i _ h1 with z | ⟨d', v, z, _, _⟩ <;> cases z
  tk := fun i d e => by
    rcases hz i _ e with z | ⟨d', v, z, h1, h2⟩ <;> cases z
/-- a later heap -/
theorem SR.heap (S : SR K A T B F0 F H σ ρ) (e : Ex H H') : SR K A T B F0 F H' σ ρ where
  fh := S.fh.trans e
  bh := S.bh.trans e
  f0 := S.f0
  nw := S.nw
  len := S.len
  fz := S.fz
  ow := fun i ds h => by
    obtain ⟨l, vs, h1, h2, h3, h4, h5⟩ := S.ow i ds h
    exact ⟨l, vs, h1, h2, h3, e l _ h4, h5⟩
  sep := S.sep
  tk := S.tk
end
/-- an expression in any frame -/
def tAny (K : PySem.W.Frag) (x : Fx) (f : Ro → EM D) : TE := fun σ H Q => ∃ B F0, tK K (x.re x.T B F0) .fz f σ H Q
theorem pe_tany {X : Cx} {x : Fx} {e : Expr} {f : Ro → EM D} (h : ∀ B F0, PE X e (tK X.K (x.re x.T B F0) .fz f)) : PE X e (tAny X.K x f) := ⟨fun pins s σ H Q I ⟨B, F0, q⟩ => (h B F0).run pins s σ H Q I q⟩
def argsOk (ks : List Nat) (ρ : Ro) : Bool := ks.all fun j => match ρ[j]? with
  | some (.fz d) => ownF d
  | _ => false
/-- a call's answer is asked, then its lists are spoilt, then on -/
def sSpoil (i r : Nat) (ks : List Nat) (fcall : Ro → EM D) (f1 f2 : Ro → EM Bool) (fit : Ro → EM D) (g : Ro → Option Fl) : Ro → Option Fl := fun ρ =>
  if i < ρ.length ∧ r < ρ.length ∧ i ≠ r ∧ argsOk ks ρ = true then
    match fcall (only ks ρ) with
    | some (.ok d) => if spoilD d = true then
        match f1 (ρ.set i (.fz d)) with
        | some (.ok true) => some (.rt (.bl false))
        | some (.ok false) => match f2 (ρ.set i (.fz d)) with
          | some (.ok true) => some (.rt (.bl false))
          | some (.ok false) => match fit (only [i] (ρ.set i (.fz d))) with
            | some (.ok (.lst rows)) => if outD (.lst rows) = true then g ((ρ.set i .un).set r .un) else none
            | _ => none
          | _ => none
        | _ => none
      else none
    | _ => none
  else none
section
variable {X : Cx} {x : Fx}
theorem tup_app {F5 : Hp} : ∀ {vs : List V} {rows : List D} {j : Nat} {b : Addr}, RepL X.K x.A F5 vs rows → rows.all rowD = true → vs[j]? = some (.ref b) → ∃ xs : List Str, F5 b = some (.lst (xs.map V.str)) ∧ xs.length ≤ 1000
  | _, _, 0, b, .cons h r, q, e => by
    rw [List.all_cons, Bool.and_eq_true] at q
    obtain ⟨a, xs, e2, h1, _, h3⟩ := row_rep h q.1
    have : some _ = some (V.ref b) := e
    cases (Option.some.inj this)
    cases e2
    exact ⟨xs, h1, h3⟩
  | _, _, j + 1, b, .cons h r, q, e => by
    rw [List.all_cons, Bool.and_eq_true] at q
    exact tup_app (j := j) r q.2 (by simpa using e)
theorem all_ref {F5 : Hp} : ∀ {vs : List V} {rows : List D} {j : Nat} {v : V}, RepL X.K x.A F5 vs rows → rows.all rowD = true → vs[j]? = some v → ∃ b, v = .ref b
  | _, _, 0, v, .cons h r, q, e => by
    rw [List.all_cons, Bool.and_eq_true] at q
    obtain ⟨a, xs, e2, h1, _, h3⟩ := row_rep h q.1
    have : some _ = some v := e
    cases (Option.some.inj this)
    exact ⟨_, e2⟩
  | _, _, j + 1, v, .cons h r, q, e => by
    rw [List.all_cons, Bool.and_eq_true] at q
    exact all_ref (j := j) r q.2 (by simpa using e)
theorem pss_spoil {i r : Nat} {ks : List Nat} {fcall : Ro → EM D} {f1 f2 : Ro → EM Bool} {fit : Ro → EM D} {g : Ro → Option Fl} {s1 s2 s3 s4 s5 : Stmt} {rest body : List Stmt} {ca it tg : Expr} {z : Str}
    (h1 : ∀ te, PE X ca te → PS X s1 (tAsg te (gName i))) (hcall : ∀ B F0, PE X ca (tK X.K (x.re x.T B F0) .fz fcall))
    (h2 : PS X s2 (tIfS (tT X.K x f1) (tS X.K x (sRet (eC (.bl false)))) tNext)) (h3 : PS X s3 (tIfS (tT X.K x f2) (tS X.K x (sRet (eC (.bl false)))) tNext))
    (hit : ∀ B F0, PE X it (tK X.K (x.re x.T B F0) .fz fit)) (h4 : ∀ wi tb, PI X tg it wi → PSs X body tb → PS X s4 (tFor wi (gName r) tb))
    (hbody : PSs X body (tDrop (tBM X.K "list" rAppend (tVar r) (fun _ H Q => Q [.str z] H))))
    (h5 : PS X s5 (tDrop (tBM X.K "list" rAppend (tOp (rIx X.K) (tVar i) (tC (.int 0))) (tA X.K x .fz (aCons (eLst aNil) aNil)))))
    (hrest : PSs X rest (tS X.K x g)) : PSs X (s1 :: s2 :: s3 :: s4 :: s5 :: rest) (tS X.K x (sSpoil i r ks fcall f1 f2 fit g)) := by
  refine pss_wk (pss_cons (h1 _ (pe_tany hcall)) (pss_cons h2 (pss_cons h3 (pss_cons (h4 _ _ (pi_list (pe_tany hit)) hbody) (pss_cons h5 hrest))))) fun E σ H ⟨F, ρ, fl, S, e, w⟩ => ?_
  unfold sSpoil at e
  split at e
  rotate_left
  · cases e
  rename_i hcond
  obtain ⟨hi, hr, hir, hargs⟩ := hcond
  split at e
  rotate_left
  · cases e
  rename_i d ed
  split at e
  rotate_left
  · cases e
  rename_i hsp
  have hiσ : i < σ.length := by rw [S.len]; exact hi
  have hrσ : r < σ.length := by rw [S.len]; exact hr
  have S1 : SR X.K x.A x.T H (keepO F) (keepO F) H σ (only ks ρ) := by
    refine SR.solo ((keepO_ex F).trans S.fh) (by rw [only_len, S.len]) fun j u hu => ?_
    rcases only_get hu with q | ⟨hj, q⟩
    · exact .inl q
    · have hj' := List.all_eq_true.mp hargs j hj
      rw [q] at hj'
      cases u with
      | fz d' =>
        obtain ⟨v, v1, v2⟩ := S.fz j d' q
        exact .inr ⟨d', v, rfl, v1, keep_rep v2 hj'⟩
      | un => exact .inl rfl
      | ow _ => cases hj'
      | tk _ => cases hj'
  refine ⟨H, keepO F, keepO F, only ks ρ, .ok d, S1, ed, fun F1 H1 v G r1 => ?_⟩
  have r1 : Rep X.K x.A F1 v d := r1
  let F2 : Hp := fun a => match H a with
    | some _ => F a
    | none => F1 a
  have F2o : ∀ a o, H a = some o → F2 a = F a := fun a o h => by
    show (match H a with
    | some _ => F a
    | none => F1 a) = _
    rw [h]
  have F2n : ∀ a, H a = none → F2 a = F1 a := fun a h => by
    show (match H a with
    | some _ => F a
    | none => F1 a) = _
    rw [h]
  have G2 : Grow F H F2 H1 := by
    refine ⟨fun a o h => ?_, G.h, fun a o h => ?_, F2o⟩
    · rw [F2o a o (S.fh a o h)]; exact h
    · cases q : H a with
      | none => rw [F2n a q] at h; exact G.i a o h
      | some u => rw [F2o a u q] at h; exact G.h a o (S.fh a o h)
  have ex12 : Ex F1 F2 := fun a o h => by
    cases q : H a with
    | none => rw [F2n a q]; exact h
    | some u =>
      rw [F2o a u q]
      rw [G.n a u q] at h
      exact keepO_ex F a o h
  obtain ⟨ry, t, a0, w1, vs0, ev, ht, ha0, hl0, hn0⟩ := spoil_rep S.fh G r1 hsp
  let σ1 := σ.set i (some v)
  let ρ1 := ρ.set i (.fz d)
  have S3 : SR X.K x.A x.T x.B x.F0 F2 H1 σ1 ρ1 := (S.grow G2).setF (r1.mono ex12)
  have hσi : σ1[i]? = some (some v) := List.getElem?_set_self hiσ
  split at e
  · rename_i e1
    cases e
    exact ⟨F2, ρ1, .ok true, S3, e1, fun F' H' G' => ⟨F', ρ1, .rt (.bl false), S3.grow G', rfl, w⟩⟩
  rotate_left
  · cases e
  rename_i e1
  refine ⟨F2, ρ1, .ok false, S3, e1, fun F3 H3 G3 => ?_⟩
  have S4 := S3.grow G3
  split at e
  · rename_i e2
    cases e
    exact ⟨F3, ρ1, .ok true, S4, e2, fun F' H' G' => ⟨F', ρ1, .rt (.bl false), S4.grow G', rfl, w⟩⟩
  rotate_left
  · cases e
  rename_i e2
  refine ⟨F3, ρ1, .ok false, S4, e2, fun F4 H4 G4 => ?_⟩
  split at e
  rotate_left
  · cases e
  rename_i rows ei
  split at e
  rotate_left
  · cases e
  rename_i hrows
  have hh14 : Ex H1 H4 := G3.h.trans G4.h
  have hh4 : Ex H H4 := G.h.trans hh14
  have S5 : SR X.K x.A x.T H4 (young H F1) (young H F1) H4 σ1 (only [i] ρ1) := by
    refine SR.solo (((young_ex H F1).trans G.i).trans hh14) (by rw [only_len, S3.len]) fun j u hu => ?_
    rcases only_get hu with q | ⟨hj, q⟩
    · exact .inl q
    · have : j = i := by simpa using hj
      subst this
      have q' : some (Ent.fz d) = some u := by rw [← q]; exact (List.getElem?_set_self hi).symm
      cases (Option.some.inj q')
      exact .inr ⟨d, v, rfl, hσi, ry⟩
  refine ⟨H4, young H F1, young H F1, only [i] ρ1, .ok (.lst rows), S5, ei, fun F5 H5 v5 G5 r5 => ?_⟩
  obtain ⟨aL, vs, rows', e5, hL, e6, rL, qL, lL⟩ := out_rep (F := F5) r5 hrows
  cases e6
  have hlen : vs.length ≤ 1000 := by rw [rL.length]; exact lL
  have hh5 : Ex H H5 := hh4.trans G5.h
  have fresh : ∀ a us, F5 a = some (.lst us) → H a = none := fun a us ha => by
    cases q : H4 a with
    | none => exact hh4.free q
    | some o =>
      rw [G5.n a o q] at ha
      exact young_lst ha
  let N : Addr → Prop := fun b => ∃ j : Nat, vs[j]? = some (V.ref b)
  have hN : ∀ b, N b → ∃ xs : List Str, F5 b = some (.lst (xs.map V.str)) ∧ xs.length ≤ 1000 := fun b ⟨j, hj⟩ => tup_app rL qL hj
  have hNL : ¬ N aL := fun hq => by
    obtain ⟨xs, q1, _⟩ := hN aL hq
    obtain ⟨j, hj⟩ := hq
    rw [hL] at q1
    cases (Option.some.inj q1)
    rw [List.getElem?_map] at hj
    obtain ⟨y, _, hy⟩ := Option.map_eq_some_iff.mp hj
    cases hy
  let Inv : Nat → Hp → Prop := fun n H' => (∀ b o, H5 b = some o → ¬ N b → H' b = some o) ∧ (∀ b, N b → ∃ us, H' b = some (.lst us) ∧ us.length ≤ 1000 + n)
  have inv0 : Inv 0 H5 := ⟨fun b o h _ => h, fun b hb => by
    obtain ⟨xs, q1, q2⟩ := hN b hb
    exact ⟨_, G5.i b _ q1, by rw [List.length_map]; exact q2⟩⟩
  have invH : ∀ n H', Inv n H' → Ex H H' := fun n H' I a o ha => I.1 a o (hh5 a o ha) fun q => by
    obtain ⟨xs, q1, _⟩ := hN a q
    have := fresh a _ q1
    rw [this] at ha
    cases ha
  have hz := sizeLine_eq
  -- what the loop leaves
  have after : ∀ σ' H', (σ' = σ1 ∨ ∃ u, σ' = σ1.set r u) → Inv vs.length H' → tSeq (tDrop (tBM X.K "list" rAppend (tOp (rIx X.K) (tVar i) (tC (.int 0))) (tA X.K x .fz (aCons (eLst aNil) aNil)))) (tS X.K x g) E σ' H' := fun σ' H' hσ I => by
    have hi' : σ'[i]? = some (some v) := by
      rcases hσ with rfl | ⟨u, rfl⟩
      · exact hσi
      · rw [List.getElem?_set_ne (Ne.symm hir)]; exact hσi
    have SU : ∀ {H2 : Hp}, Ex H H2 → SR X.K x.A x.T x.B x.F0 F H2 σ' ((ρ.set i .un).set r .un) := fun {H2} e2 => by
      have a1 : SR X.K x.A x.T x.B x.F0 F H2 σ1 (ρ.set i .un) := (S.heap e2).setU
      rcases hσ with rfl | ⟨u, rfl⟩
      · exact a1.drop
      · exact a1.setU
    have htH : H' t = some (.tup [.ref a0, w1]) := by
      have q1 : young H F1 t = some (.tup [.ref a0, w1]) := young_tup ht
      have q2 : F5 t = some (.tup [.ref a0, w1]) := G5.f t _ q1
      refine I.1 t _ (G5.i t _ q2) fun q => ?_
      obtain ⟨xs, q3, _⟩ := hN t q
      rw [q2] at q3
      cases q3
    obtain ⟨us, hus, hul⟩ : ∃ us, H' a0 = some (.lst us) ∧ us.length ≤ 2000 := by
      by_cases q : N a0
      · obtain ⟨us, q1, q2⟩ := I.2 a0 q
        exact ⟨us, q1, by omega⟩
      · have q1 : F5 a0 = some (.lst vs0) := G5.f a0 _ (young_of ha0 hn0)
        exact ⟨vs0, I.1 a0 _ (G5.i a0 _ q1) q, by omega⟩
    have eH := invH _ _ I
    refine ⟨v, hi', ?_⟩
    subst ev
    refine .inr (.inl ⟨t, _, 0, .ref a0, rfl, rfl, .of htH, atI_nat (j := 0) rfl, ?_⟩)
    refine ⟨.inl ⟨rfl, us, .of hus⟩, ?_⟩
    have hev : aCons (eLst aNil) aNil ((ρ.set i .un).set r .un) = some (.ok [.lst []]) := by
      have e0 : eLst aNil ((ρ.set i .un).set r .un) = some (.ok (.lst [])) := by
        show (if ([] : List D).length ≤ sizeLine then ok (D.lst []) else none) = _
        rw [if_pos (by show 0 ≤ sizeLine; omega)]
        rfl
      unfold aCons
      rw [e0]
      rfl
    refine ⟨F, _, .ok [.lst []], SU eH, hev, fun F6 H6 ys G6 r6 => ?_⟩
    obtain ⟨y, rfl, ry6⟩ := rkl1 r6
    refine ⟨a0, us, y, rfl, rfl, G6.h a0 _ hus, by omega, ?_⟩
    exact ⟨F, _, fl, SU ((eH.trans G6.h).mut hn0), e, w⟩
  refine ⟨aL, e5, ⟨vs, .of (G5.i aL _ hL)⟩, ?_⟩
  refine ⟨fun n m σ' H' => m = vs.length - n ∧ n ≤ vs.length ∧ (σ' = σ1 ∨ ∃ u, σ' = σ1.set r u) ∧ Inv n H', ⟨vs.length, rfl, Nat.zero_le _, .inl rfl, inv0⟩, ?_⟩
  rintro n m σ' H' ⟨rfl, hn, hσ, I⟩
  have hLH : H' aL = some (.lst vs) := I.1 aL _ (G5.i aL _ hL) hNL
  by_cases hq : n = vs.length
  · subst hq
    exact .inl ⟨⟨vs, .of hLH, Nat.le_refl _⟩, after σ' H' hσ I⟩
  · have hlt : n < vs.length := by omega
    have hget : vs[n]? = some vs[n] := List.getElem?_eq_getElem hlt
    refine .inr ⟨⟨vs, vs[n], .of hLH, hget⟩, fun σ2 H2 => (∃ u, σ2 = σ1.set r u) ∧ Inv (n + 1) H2, fun σ2 H2 ⟨q1, q2⟩ => ⟨vs.length - (n + 1), by omega, rfl, by omega, .inr q1, q2⟩, fun y H2 hy => ?_⟩
    obtain ⟨rfl, hy⟩ := hy
    have hy := hy vs (.of hLH)
    rw [hget] at hy
    cases (Option.some.inj hy)
    obtain ⟨b, eb⟩ := all_ref rL qL hget
    have hbN : N b := ⟨n, by rw [hget, eb]⟩
    obtain ⟨us, hus, hul⟩ := I.2 b hbN
    have hset : ∃ u, σ'.set r (some vs[n]) = σ1.set r u := by
      rcases hσ with rfl | ⟨u, rfl⟩
      · exact ⟨_, rfl⟩
      · exact ⟨some vs[n], by rw [List.set_set]⟩
    have hrl : r < σ'.length := by
      rcases hσ with rfl | ⟨u, rfl⟩
      · show r < (σ.set i (some v)).length; rw [List.length_set]; exact hrσ
      · show r < ((σ.set i (some v)).set r u).length; rw [List.length_set, List.length_set]; exact hrσ
    show tDrop (tBM X.K "list" rAppend (tVar r) (fun _ H Q => Q [.str z] H)) _ (σ'.set r (some vs[n])) H2
    refine ⟨vs[n], List.getElem?_set_self hrl, ?_⟩
    rw [eb]
    refine ⟨.inl ⟨rfl, us, .of hus⟩, b, us, .str z, rfl, rfl, hus, by omega, ?_⟩
    refine ⟨eb ▸ hset, fun c o hc hcn => ?_, fun c hc => ?_⟩
    · rw [upd_ne (fun q => hcn (by rw [q]; exact hbN))]
      exact I.1 c o hc hcn
    · by_cases q : c = b
      · subst q
        exact ⟨_, upd_same, by rw [List.length_append, List.length_singleton]; omega⟩
      · rw [upd_ne q]
        obtain ⟨us', q1, q2⟩ := I.2 c hc
        exact ⟨us', q1, by omega⟩
end
end Tw
/-! TwDE: str of None, too. -/
namespace Tw
open PySem PySem.Spec PyProof.Rows L2
section
variable {X : Cx} {x : Fx}
theorem call_str_non : CallR X (.type "str") (fun xs H Q => xs = [V.non] ∧ Q (.str "None") H) := by
  intro pins s σ H xs us Q I r h
  obtain ⟨rfl, q⟩ := h
  cases r with
  | cons rv r0 =>
    cases r0
    cases rv
    exact PySem.P.str_of_none ⟨.str _, H, I.tok _, ⟨_, rfl⟩, q⟩
def dStrV (ds : List D) : EM D := match ds with
  | [.non] => ok (.str "None")
  | ds => dStrU ds
theorem pk_strV {e : Expr} {p pos : Pos} {fs : Ro → EM (List D)} (hgd : X.A.guards = some []) (hu : X.A.units + 64 < PySem.cLine) (hm : X.mg "str" = none) (hg : Gl X "str") (ha : PA X [e] (tA X.K x .bw fs)) (he : starEach [e] X.env = (false, eval e X.env) :: starEach [] X.env := by rfl) : PE X (.Call (.Name "str" p) [e] [] pos) (tK X.K x .fz (eCall dStrV fs)) :=
  pk_ct (r := fun xs H Q => (xs = [V.non] ∧ Q (.str "None") H) ∨ (∃ i, xs = [V.int i] ∧ i.natAbs.log2 < 1920 ∧ Q (.str (toString i)) H) ∨ ∃ v d, xs = [v] ∧ Rep X.K x.A H v d ∧ isSq d = true ∧ okS d = true ∧ Q (.str (py d).shown) H)
    (fun pins s σ H xs us Q I r h => by
      rcases h with h | h | h
      · exact call_str_non pins s σ H xs us Q I r h
      · exact call_str_int pins s σ H xs us Q I r h
      · exact call_strD (A := x.A) hgd hu pins s σ H xs us Q I r h)
    (fun F H σ vs ds q Q ex rv hq w => by
      unfold dStrV at hq
      split at hq
      · cases (Option.some.inj hq)
        obtain ⟨v, rfl, r1⟩ := rkl1 rv
        rw [rk_non r1]
        exact Or.inl ⟨rfl, w.val ex (.str _) (by decide)⟩
      unfold dStrU at hq
      split at hq
      · unfold dStr at hq
        dsimp only at hq
        split at hq
        · rename_i hl
          cases (Option.some.inj hq)
          obtain ⟨v, rfl, r1⟩ := rkl1 rv
          rw [rk_int r1]
          exact Or.inr (Or.inl ⟨_, rfl, hl, w.val ex (.str _) (by decide)⟩)
        · cases hq
      · rename_i d _ _
        split at hq
        · rename_i hc
          have hc' : isSq d = true ∧ okS d = true := by simpa using hc
          cases (Option.some.inj hq)
          obtain ⟨v, rfl, r1⟩ := rkl1 rv
          exact Or.inr (Or.inr ⟨_, _, rfl, r1.all ex, hc'.1, hc'.2, w.val ex (.str _) (by decide)⟩)
        · cases hq
      · cases hq) (fun ds y q => by
      unfold dStrV at q
      split at q
      · cases q
      unfold dStrU at q
      split at q
      · unfold dStr at q
        dsimp only at q
        split at q <;> cases q
      · split at q <;> cases q
      · cases q) hm (by decide +kernel) hg ha (he := he)
end
end Tw
/-! TwDF: a try whose clauses are never come to; enumerate(xs, start=k) to one name. -/
namespace Tw
open PySem PySem.Spec PyProof.Rows L2
/-! ### try .. except .. else .., nothing raised -/
def sThru (gb go : Ro → Option Fl) : Ro → Option Fl := fun ρ => match gb ρ with
  | some (.nx ρ') => go ρ'
  | some (.ex _ _) => none
  | o => o
def Fx.never (x : Fx) : Fx := ⟨x.A, x.T, x.B, x.F0, fun _ _ _ _ => False⟩
section
variable {X : Cx} {x : Fx} {body orelse : List Stmt} {h₀ : ExceptHandler} {hds : List ExceptHandler} {gb go : Ro → Option Fl} {pos : Pos}
theorem pks_thru (hb : L2N.Takes X.nox (fun _ _ _ _ => False) → PSs X.nox body (tS X.K (Fx.never x) gb)) (ho : PSs X orelse (tS X.K x go)) : PS X (.Try body (h₀ :: hds) orelse [] pos) (tS X.K x (sThru gb go)) :=
  ps_wk (ps_try_thru (hb takesF) ho) fun E σ H ⟨F, ρ, fl, S, e, w⟩ => by
    unfold sThru at e
    cases eg : gb ρ with
    | none => rw [eg] at e; cases e
    | some f1 =>
      rw [eg] at e
      have S' : SR X.K (Fx.never x).A (Fx.never x).T (Fx.never x).B (Fx.never x).F0 F H σ ρ := S
      refine ⟨F, ρ, f1, S', eg, ?_⟩
      cases f1 with
      | nx ρ' => exact fun F' H' σ' ex S2 => ⟨F', ρ', fl, S2, e, w.mono ex⟩
      | ex y ρ' => cases e
      | rt d => cases (Option.some.inj e); exact w
      | rto d => cases (Option.some.inj e); exact w
      | bk d => cases (Option.some.inj e); exact w
      | ct d => cases (Option.some.inj e); exact w
end
/-! ### enumerate, the tuple held -/
/-- an enumerate's record, what it gave out last in f0 -/
abbrev EnR (h : Heap) (e it : Addr) (c : Int) (f0 f1 old : Value) : Prop :=
  h.get? e = some ⟨.type "enumerate", none, .fields #[f0, f1, .ref it, rawInt c, .none, old], #[]⟩
def EnX (h : Heap) (e it : Addr) (c : Int) : Prop := ∃ f0 f1 old, (f0 = .none ∨ ∃ a : Addr, f0 = rawInt a) ∧ EnR h e it c f0 f1 old
section
variable {prog : Program} {w : World} {A : Around} {E : Value → Shared → Prop} {s : Shared}
theorem wpAny_lia {M : Model} {a : Addr} {Q : Option Obj → Shared → Prop} (h : Q (s.heap.get? a) s) : wpAny M A (loadIfAlive a) Q E s := fun _ _ _ => h
theorem free_is {e it : Addr} {c : Int} {f0 f1 old : Value} {Q : Bool → Shared → Prop} (hf : f0 = .none ∨ ∃ a : Addr, f0 = rawInt a) (he : EnR s.heap e it c f0 f1 old)
    (hQ : ∀ b h' g1, EnR h' e it c f0 g1 old → Heap.SameBut e s.heap h' → Q b { s with heap := h' }) : wpAny (model prog w) A (Builtin.SmallTypes.ownedTupleIsFree (.ref e)) Q E s := by
  have same : Heap.SameBut e s.heap s.heap := ⟨rfl, fun _ _ => rfl⟩
  unfold Builtin.SmallTypes.ownedTupleIsFree
  rcases hf with rfl | ⟨a, rfl⟩
  · exact wpAny_bind (wpAny_field he rfl (x := .none) rfl (wpAny_pure (hQ true _ f1 he same)))
  · refine wpAny_bind (wpAny_field he rfl (x := rawInt a) rfl ?_)
    show wpAny _ _ (loadIfAlive (Int.toNat a) >>= _) _ _ _
    refine wpAny_bind (wpAny_lia ?_)
    cases s.heap.get? (Int.toNat a) with
    | none => exact wpAny_pure (hQ true _ f1 he same)
    | some o =>
      refine wpAny_bind (wpAny_field he rfl (x := f1) rfl ?_)
      by_cases q : (f1 != Value.bool true) = true
      · rw [if_pos q]
        refine wpAny_bind (wpAny_setField_rec he (by simp) fun h1 he1 hs1 => wpAny_pure (hQ false h1 (.bool true) he1 hs1))
      · rw [if_neg q]
        exact wpAny_bind (wpAny_pure (wpAny_pure (hQ false _ f1 he same)))
theorem en_item {e it l : Addr} {i : Nat} {c : Int} {items : Array Value} {u : Value} {Q : Value → Shared → Prop} (he : EnX s.heap e it c) (hit : s.heap.IsListIter it l i) (hl : s.heap.IsList l items) (hu : items[i]? = some u) (hne : e ≠ it)
    (hQ : ∀ h', EnX h' e it (c + 1) → h'.IsListIter it l (i + 1) → h'.get? s.heap.objs.size = some { cls := .type "tuple", data := .seq #[.int c s.toks, u] } → h'.objs.size = s.heap.objs.size + 1 →
      (∀ b o, b ≠ e → b ≠ it → s.heap.get? b = some o → h'.get? b = some o) → Q (.ref s.heap.objs.size) { s with heap := h', toks := s.toks + 1 }) :
    wpAny (model prog w) A (Builtin.«enumerate.__next__» ⟨[.ref e], []⟩) (fun r s1 => ∃ v, r = .done (.ret v) ∧ Q v s1) E s := by
  obtain ⟨f0, f1, old, hf, he⟩ := he
  obtain ⟨m, g, d, t, os⟩ := s
  have hel : e < m.objs.size := Heap.lt_size he
  show wpAny _ _ (field (Value.ref e) 2 >>= _) _ _ _
  refine wpAny_bind (wpAny_field he rfl (x := Value.ref it) rfl (wpAny_bind (wpAny_nextOf_list_item hit hl hu fun m1 it1 sb1 => ?_)))
  have sb1 : Heap.SameBut it m m1 := sb1
  have e1 : EnR m1 e it c f0 f1 old := (sb1.2 e hne).trans he
  show wpAny _ _ (field (Value.ref e) 3 >>= _) _ _ ⟨m1, g, d, t, os⟩
  refine wpAny_bind (wpAny_field e1 rfl (x := rawInt c) rfl ?_)
  show wpAny _ _ (field (Value.ref e) 4 >>= _) _ _ ⟨m1, g, d, t, os⟩
  refine wpAny_bind (wpAny_field e1 rfl (x := Value.none) rfl ?_)
  show wpAny _ _ (mkInt c >>= fun index => _) _ _ ⟨m1, g, d, t, os⟩
  refine wpAny_bind (wpAny_mkInt ?_)
  show wpAny _ _ (setField (Value.ref e) 3 (rawInt (c + 1)) >>= _) _ _ ⟨m1, g, d, t + 1, os⟩
  refine wpAny_bind (wpAny_setField_rec e1 (by simp) fun m2 e2 sb2 => ?_)
  have sb2 : Heap.SameBut e m1 m2 := sb2
  have e2 : EnR m2 e it (c + 1) f0 f1 old := e2
  show wpAny _ _ (setField (Value.ref e) 4 Value.none >>= _) _ _ ⟨m2, g, d, t + 1, os⟩
  refine wpAny_bind (wpAny_setField_rec e2 (by simp) fun m3 e3 sb3 => ?_)
  have sb3 : Heap.SameBut e m2 m3 := sb3
  have e3 : EnR m3 e it (c + 1) f0 f1 old := e3
  show wpAny _ _ (newTuple [Value.int c t, u] >>= _) _ _ ⟨m3, g, d, t + 1, os⟩
  refine wpAny_bind (wpAny_newTuple ?_)
  have hz3 : m3.objs.size = m.objs.size := by rw [sb3.1, sb2.1, sb1.1]
  let m4 : Heap := m3.push { cls := .type "tuple", data := .seq #[Value.int c t, u] }
  have e4 : EnR m4 e it (c + 1) f0 f1 old := Heap.get?_push_of_some _ e3
  have t4 : m4.get? m.objs.size = some { cls := .type "tuple", data := .seq #[Value.int c t, u] } := by rw [← hz3]; exact Heap.get?_push_size _ rfl
  have z4 : m4.objs.size = m.objs.size + 1 := by rw [show m4.objs.size = m3.objs.size + 1 from Heap.size_push ..]; rw [hz3]
  have k4 : ∀ b o, b ≠ e → b ≠ it → m.get? b = some o → m4.get? b = some o := fun b o q1 q2 hb => Heap.get?_push_of_some _ (sb3.extBut b o q1 (sb2.extBut b o q1 (sb1.extBut b o q2 hb)))
  have i4 : m4.IsListIter it l (i + 1) := by
    obtain ⟨o, ho, r⟩ := (it1.extBut sb2.extBut (Ne.symm hne)).extBut sb3.extBut (Ne.symm hne)
    exact ⟨o, Heap.get?_push_of_some _ ho, r⟩
  -- what follows writes the record alone
  have fin : ∀ h', EnX h' e it (c + 1) → Heap.SameBut e m4 h' → Q (Value.ref m.objs.size) ⟨h', g, d, t + 1, os⟩ := fun h' ex sb => hQ h' ex (i4.extBut sb.extBut (Ne.symm hne)) (sb.extBut _ _ (Nat.ne_of_gt hel) t4) (by rw [sb.1, z4]) fun b o q1 q2 hb => sb.extBut b o q1 (k4 b o q1 q2 hb)
  rw [hz3]
  show wpAny _ _ (Builtin.SmallTypes.ownedTupleIsFree (Value.ref e) >>= _) _ _ ⟨m4, g, d, t + 1, os⟩
  refine wpAny_bind (free_is hf e4 fun b m5 g1 e5 sb5 => ?_)
  have sb5 : Heap.SameBut e m4 m5 := sb5
  cases b with
  | false =>
    show wpAny _ _ (pure _ >>= _) _ _ ⟨m5, g, d, t + 1, os⟩
    exact wpAny_bind (wpAny_pure (wpAny_pure ⟨_, rfl, fin m5 ⟨_, _, _, hf, e5⟩ sb5⟩))
  | true =>
    simp only [if_true]
    refine wpAny_bind (wpAny_rule (wpAny_bind (wpAny_field e5 rfl (x := old) rfl ?_)))
    refine wpAny_bind (wpAny_setField_rec e5 (by simp) fun m6 e6 sb6 => ?_)
    have sb6 : Heap.SameBut e m5 m6 := sb6
    have e6 : EnR m6 e it (c + 1) f0 g1 u := e6
    show wpAny _ _ (Builtin.SmallTypes.ownedTupleHandOut (Value.ref e) (Value.ref m.objs.size) >>= _) _ _ ⟨m6, g, d, t + 1, os⟩
    refine wpAny_bind ?_
    unfold Builtin.SmallTypes.ownedTupleHandOut
    refine wpAny_bind (wpAny_setField_rec e6 (by simp) fun m7 e7 sb7 => ?_)
    have sb7 : Heap.SameBut e m6 m7 := sb7
    have e7 : EnR m7 e it (c + 1) (rawInt (m.objs.size : Int)) g1 u := e7
    refine wpAny_setField_rec e7 (by simp) fun m8 e8 sb8 => ?_
    have sb8 : Heap.SameBut e m7 m8 := sb8
    have e8 : EnR m8 e it (c + 1) (rawInt (m.objs.size : Int)) (.bool false) u := e8
    refine wpAny_bind (wpAny_letGo (wpAny_pure ⟨_, rfl, fin m8 ⟨_, _, _, .inr ⟨_, rfl⟩, e8⟩ ?_⟩))
    exact ⟨by rw [sb8.1, sb7.1, sb6.1, sb5.1], fun b q => (sb8.2 b q).trans ((sb7.2 b q).trans ((sb6.2 b q).trans (sb5.2 b q)))⟩
end
section
variable {prog : Program} {w : World} {A : Around} {E : Value → Shared → Prop} {s : Shared}
theorem en_nextI {e it l : Addr} {i : Nat} {c : Int} {items : Array Value} {u : Value} {Q : Option Value → Shared → Prop} (he : EnX s.heap e it c) (hit : s.heap.IsListIter it l i) (hl : s.heap.IsList l items) (hu : items[i]? = some u) (hne : e ≠ it)
    (hQ : ∀ h', EnX h' e it (c + 1) → h'.IsListIter it l (i + 1) → h'.get? s.heap.objs.size = some { cls := .type "tuple", data := .seq #[.int c s.toks, u] } → h'.objs.size = s.heap.objs.size + 1 →
      (∀ b o, b ≠ e → b ≠ it → s.heap.get? b = some o → h'.get? b = some o) → Q (some (.ref s.heap.objs.size)) { s with heap := h', toks := s.toks + 1 }) : wpAny (model prog w) A (pyNext (.ref e)) Q E s := by
  have ty : s.TypeIs (.ref e) "enumerate" := by
    obtain ⟨f0, f1, old, _, q⟩ := he
    exact ⟨_, q, rfl⟩
  unfold pyNext
  refine wpAny_bind (wpAny_attempt (wpAny_callSpecial?_slot (name := Str.ofString "__next__") ty F.slot_enumerate_next ?_))
  exact wpAny_call_entry F.slot_enumerate_next ty F.entry_enumerate_next (en_item he hit hl hu hne fun h' q1 q2 q3 q4 q5 => wpAny_pure (hQ h' q1 q2 q3 q4 q5)) (F.args_enumerate_next_1 _)
theorem en_nextE {e it l : Addr} {i : Nat} {c : Int} {items : Array Value} {Q : Option Value → Shared → Prop} (hh : A.handled = none) (he : EnX s.heap e it c) (hit : s.heap.IsListIter it l i) (hl : s.heap.IsList l items) (hx : items[i]? = none)
    (hQ : ∀ h', Heap.ExtBut it s.heap h' → Q none { s with heap := h' }) : wpAny (model prog w) A (pyNext (.ref e)) Q E s := by
  obtain ⟨f0, f1, old, _, q⟩ := he
  have ty : s.TypeIs (.ref e) "enumerate" := ⟨_, q, rfl⟩
  unfold pyNext
  refine wpAny_bind (wpAny_attempt (wpAny_callSpecial?_slot (name := Str.ofString "__next__") ty F.slot_enumerate_next ?_))
  refine wpAny_call_entry F.slot_enumerate_next ty F.entry_enumerate_next ?_ (F.args_enumerate_next_1 _)
  show wpAny _ _ (field (Value.ref e) 2 >>= _) _ _ _
  refine wpAny_bind (wpAny_field q rfl (x := Value.ref it) rfl (wpAny_bind (wpAny_nextOf_list_end hh hit hl hx fun h' a ex st => ?_)))
  obtain ⟨o, ho, hc⟩ := st
  exact wpAny_bind (wpAny_isInstance (T := "StopIteration") (b := true) ⟨o, ho, hc⟩ isSubtype_stop (wpAny_pure (hQ h' ex)))
theorem en_self {e it : Addr} {c : Int} {Q : Value → Shared → Prop} (he : EnX s.heap e it c) (h : Q (.ref e) s) : wpAny (model prog w) A (pyIter (.ref e)) Q E s := by
  obtain ⟨f0, f1, old, _, q⟩ := he
  have ty : s.TypeIs (.ref e) "enumerate" := ⟨_, q, rfl⟩
  refine wpAny_pyIter_slot ty F.slot_enumerate_iter (wpAny_call_entry F.slot_enumerate_iter ty F.entry_enumerate_iter ?_ (F.args_enumerate_iter_1 _))
  show wpAny _ _ (ret (Value.ref e)) _ _ s
  exact wpAny_pure ⟨_, rfl, "enumerate", _, ty, F.slot_enumerate_next.lookup, h⟩
end
/-- the list at a, each item behind its number from k on, in a pair of its own -/
def ItE (K : PySem.W.Frag) (a : Addr) (k : Int) : It :=
  ⟨fun i H => ∃ (xs : List V) (x : V), SqL K H a xs ∧ xs[i]? = some x, fun i H v H' => ∃ T x, v = .ref T ∧ H T = none ∧ H' = upd H T (.tup [.int (k + (i : Nat)), x]) ∧ ∀ xs, SqL K H a xs → xs[i]? = some x, fun i H => ∃ xs : List V, SqL K H a xs ∧ xs.length ≤ i⟩
theorem turnE {P : Program} {w : World} {K : PySem.W.Frag} {n : Str} {np : Pos} (a e it : Addr) (k : Int) : Turn P w K (.Name n np) (ItE K a k) [e, it] e (fun i h => EnX h e it (k + (i : Nat)) ∧ h.IsListIter it a i ∧ e ≠ it) where
  mem := List.mem_cons_self
  obj := fun i h st b hb => by
    obtain ⟨⟨f0, f1, old, _, q⟩, ⟨o, ho, hc, hd⟩, _⟩ := st
    rcases List.mem_cons.mp hb with z | z
    · rw [z]; exact ⟨_, q, fun v y => nomatch y⟩
    · rw [List.mem_singleton.mp z]; exact ⟨o, ho, fun v y => by rw [hd] at y; cases y⟩
  keep := fun i h h' st kp => by
    obtain ⟨⟨f0, f1, old, hf, q⟩, hi, hne⟩ := st
    exact ⟨⟨f0, f1, old, hf, kp e (by simp) _ q⟩, hi.at fun o y => kp it (by simp) o y, hne⟩
  item := by
    intro X hP hw hK hcalm i pins s σ H E I hfp st hg
    subst hP hw hK
    obtain ⟨he, hit, hne⟩ := st
    obtain ⟨xs, x, hq, hx⟩ := hg
    obtain ⟨its, rv, pl, _⟩ := I.list hq
    obtain ⟨u, hu, ru⟩ := rv.get hx
    have lt : ∀ b ∈ [e, it], b < s.heap.objs.size := fun b hb => by
      rcases List.mem_cons.mp hb with z | z
      · obtain ⟨f0, f1, old, _, y⟩ := he
        rw [z]; exact Heap.lt_size y
      · obtain ⟨o, y, _⟩ := hit
        rw [List.mem_singleton.mp z]; exact Heap.lt_size y
    refine en_nextI he hit pl.isList (u := u) (by simpa using hu) hne fun h' he' hit' hT hz hk => ⟨_, rfl, ?_⟩
    unfold letOwnedTupleGo
    refine wpAny_pure ?_
    have new : ObjOk X.prog X.w (upd H s.heap.objs.size (.tup [.int (k + (i : Nat)), x])) h' s.heap.objs.size (.tup [.int (k + (i : Nat)), x]) :=
      ⟨by show 2 ≤ sizeLine; have := sizeLine_eq; omega, [.int (k + (i : Nat)) s.toks, u], .cons ⟨_, rfl⟩ (.cons ru .nil), ⟨_, hT, rfl, _, rfl⟩⟩
    have I1 : Inv X pins σ (upd H s.heap.objs.size (.tup [.int (k + (i : Nat)), x])) { s with heap := h', toks := s.toks + 1 } :=
      I.turnedNew (ch := [e, it]) (fun b ob hb y => hk b ob (fun z => hb (by rw [z]; exact List.mem_cons_self)) (fun z => hb (by rw [z]; simp)) y) hfp (Nat.le_refl _) new
    refine ⟨.ref s.heap.objs.size, _, I1, rfl, ⟨_, x, rfl, I.hok.fresh (Nat.le_refl _), rfl, fun ys hy => by rw [I.list_inj hy hq]; exact hx⟩, ⟨?_, hit', hne⟩, fun b hb => ?_⟩
    · rw [show k + ((i + 1 : Nat) : Int) = k + (i : Nat) + 1 by omega]
      exact he'
    · rw [upd_ne (Nat.ne_of_lt (lt b hb))]
      exact (hfp b hb).1
  done := by
    intro X hP hw hK hcalm i pins s σ H E I hfp st hg
    subst hP hw hK
    obtain ⟨he, hit, hne⟩ := st
    obtain ⟨xs, hq, hx⟩ := hg
    obtain ⟨its, rv, pl, _⟩ := I.list hq
    obtain ⟨g0, g1, g2, g3, g4, g5⟩ := hfp it (by simp)
    have hlen := rv.length
    exact en_nextE (I.ok.hd hcalm) he hit pl.isList (by simp; omega) fun h' ex => ⟨rfl, I.turned (t' := s.toks) (fun b o hb y => ex b o hb y) g0 g1 g3 g4 g5⟩
  self := fun A i s Q E st h => en_self st.1 h
theorem cw_typeK {M : Model} {A : Around} {E : Value → Shared → Prop} {s : Shared} {pos : Pos} {T : String} {fs : List Value} {args : List (Bool × Sem Value)} {kws : List (Option Str × Sem Value)} {Q : Value → Shared → Prop} (hp : args.any (·.1) = false) (hk : kws.any (·.1.isNone) = false)
    (h : wpAny M A (evalArgs (.type T) true args kws) (fun a s1 => wpAny M A (call (.type T) (fs ++ a.pos) a.kw) Q E s1) E s) : wpAny M A (callWith pos (.type T) fs args kws) Q E s := by
  unfold callWith
  refine wpAny_bind (wpAny_holding (wpAny_mono h (fun a s1 h1 => ?_) fun _ _ z => z))
  refine wpAny_bind (wpAny_standAt ?_)
  simp only [hp, hk, Bool.or_false]
  refine wpAny_bind (wpAny_pure (wpAny_bind (wpAny_mono h1 (fun r s2 hr => ?_) fun _ _ z => z)))
  exact wpAny_bind (wpAny_holding (wpAny_point (wpAny_pure hr)))
section
variable {X : Cx} {x : Fx} {e : Expr} {f : Ro → EM D}
def iEnumK (K : PySem.W.Frag) (k : Int) (te : TE) : TI := fun σ H R => te σ H fun v H1 => ∃ a xs, [v] = [V.ref a] ∧ SqL K H1 a xs ∧ R (ItE K a k) H1
theorem pi_enumK {te : TE} {p pos np kp cp : Pos} {n : Str} {k : Int} {j : Nat} (hg : Gl X "enumerate") (hm : X.mg "enumerate" = none) (he : PE X e te) (h0 : -(2 ^ 63) ≤ k) (h1 : k < 2 ^ 63)
    (hs : backTo pos (starEach [e] X.env) = (false, eval e X.env) :: backTo pos (starEach [] X.env) := by rfl) (hpl : (backTo pos (starEach [e] X.env)).any (·.1) = false := by rfl) (hst : starEach [e] X.env = (false, eval e X.env) :: starEach [] X.env := by rfl)
    (hall : (backToKw pos (keywordEach [⟨some "start", .Constant (.int k) j cp, kp⟩] X.env)).all (·.1.isSome) = true := by rfl) (hnone : (backToKw pos (keywordEach [⟨some "start", .Constant (.int k) j cp, kp⟩] X.env)).any (·.1.isNone) = false := by rfl)
    (hks : (backToKw pos (keywordEach [⟨some "start", .Constant (.int k) j cp, kp⟩] X.env)).filterMap (·.1) = [Str.ofString "start"] := by rfl) :
    PI X (.Name n np) (.Call (.Name "enumerate" p) [e] [⟨some "start", .Constant (.int k) j cp, kp⟩] pos) (iEnumK X.K k te) := by
  refine ⟨fun pins s σ H R I h => ?_⟩
  refine wpAny_Call_Name_kw (ld_blt I hg hm PyProof.Rows.boot_enumerate ?_)
  refine cw_typeK hpl hnone ?_
  rw [hs]
  refine PyProof.Rows.evalArgs_kwB hall ?_
  rw [← hs]
  refine thn ((L2.pa_cons he L2.pa_nil hst).run pos pins s σ H (fun vs H1 => ∃ a xs, vs = [.ref a] ∧ SqL X.K H1 a xs ∧ R (ItE X.K a k) H1) I ?_) fun us s1 ⟨vs, H1, I1, r1, q1⟩ => ?_
  · exact h
  · have hkk : PK X [⟨some "start", .Constant (.int k) j cp, kp⟩] (tCons (tC (.int k)) tNil) := L2.pk_cons pe_int L2.pk_nil
    refine thn (hkk.run pos pins s1 σ H1 (fun zs H2 => zs = [.int k] ∧ H2 = H1) I1 ⟨rfl, rfl⟩) fun ws s2 ⟨zs, H2, I2, r2, q2⟩ => ?_
    obtain ⟨rfl, rfl⟩ := q2
    obtain ⟨w1, rfl, t, rfl⟩ := vals1 r2
    obtain ⟨a, xs, rfl, hq, q⟩ := q1
    cases r1 with
    | cons r rr =>
      cases rr
      cases r
      obtain ⟨its, rv, pl, _⟩ := I2.list hq
      rw [hks]
      refine enum_begins_start (begins_list a its.toArray) pl.isList h0 h1 fun h' hen hit hz hk => ?_
      have ex : EnX h' (s2.heap.objs.size + 1) s2.heap.objs.size (k + ((0 : Nat) : Int)) := ⟨.none, _, _, .inl rfl, by rw [show k + ((0 : Nat) : Int) = k by omega]; exact hen⟩
      refine en_self ex ?_
      have I3 : Inv X pins σ H2 { s2 with heap := h' } := I2.kept (t' := s2.toks) hk
      refine ⟨s2.heap.objs.size + 1, [s2.heap.objs.size + 1, s2.heap.objs.size], _, _, H2, rfl, I3, turnE a (s2.heap.objs.size + 1) s2.heap.objs.size k, ⟨ex, ⟨_, hit, rfl, rfl⟩, Nat.succ_ne_self _⟩, fun b hb => ?_, q⟩
      have hle : s2.heap.objs.size ≤ b := by
        rcases List.mem_cons.mp hb with z | z
        · rw [z]; exact Nat.le_add_right _ _
        · rw [List.mem_singleton.mp z]; exact Nat.le_refl _
      exact I2.fpOk hle (I2.hok.fresh hle)
def numD (k : Int) : List D → List D
  | [] => []
  | d :: ds => .tup [.int k, d] :: numD (k + 1) ds
theorem numD_get : ∀ {ds : List D} {k : Int} {i : Nat}, (numD k ds)[i]? = (ds[i]?).map fun d => .tup [.int (k + (i : Nat)), d]
  | [], k, i => by simp [numD]
  | d :: ds, k, 0 => by simp [numD]
  | d :: ds, k, i + 1 => by
    show (numD (k + 1) ds)[i]? = _
    rw [numD_get, List.getElem?_cons_succ]
    congr 1
    funext d
    rw [show k + 1 + (i : Int) = k + ((i + 1 : Nat) : Int) by omega]
theorem numD_len : ∀ {ds : List D} {k : Int}, (numD k ds).length = ds.length
  | [], _ => rfl
  | d :: ds, k => by
    show (numD (k + 1) ds).length + 1 = _
    rw [numD_len]; rfl
def iEnS (k : Int) (f : Ro → EM D) : Ro → EM (List D) := fun ρ => bnd (f ρ) fun d => match d with
  | .lst xs => ok (numD k xs)
  | _ => none
theorem pid_enumS {p pos np kp cp : Pos} {n : Str} {k : Int} {j : Nat} (hm : X.mg "enumerate" = none) (hg : Gl X "enumerate") (ha : PE X e (tK X.K x .fz f)) (h0 : -(2 ^ 63) ≤ k) (h1 : k < 2 ^ 63)
    (hs : backTo pos (starEach [e] X.env) = (false, eval e X.env) :: backTo pos (starEach [] X.env) := by rfl) (hpl : (backTo pos (starEach [e] X.env)).any (·.1) = false := by rfl) (hst : starEach [e] X.env = (false, eval e X.env) :: starEach [] X.env := by rfl)
    (hall : (backToKw pos (keywordEach [⟨some "start", .Constant (.int k) j cp, kp⟩] X.env)).all (·.1.isSome) = true := by rfl) (hnone : (backToKw pos (keywordEach [⟨some "start", .Constant (.int k) j cp, kp⟩] X.env)).any (·.1.isNone) = false := by rfl)
    (hks : (backToKw pos (keywordEach [⟨some "start", .Constant (.int k) j cp, kp⟩] X.env)).filterMap (·.1) = [Str.ofString "start"] := by rfl) :
    PI X (.Name n np) (.Call (.Name "enumerate" p) [e] [⟨some "start", .Constant (.int k) j cp, kp⟩] pos) (tI X.K x (iEnS k f)) :=
  pi_wk (pi_enumK hg hm ha h0 h1 hs hpl hst hall hnone hks) fun σ H R ⟨F, ρ, r, S, e0, w⟩ => tk_step S e0 (fun y hy => by subst hy; exact w) fun d F1 H1 v G S1 r1 e1 => by
    split at e1
    · rename_i ds
      cases (Option.some.inj e1)
      have r1' : Rep X.K x.A F1 v (.lst ds) := r1
      cases r1' with
      | @lst a' vs _ h1 rr =>
        refine ⟨a', vs, rfl, .of (S1.fh _ _ h1), WdI.d w F1 H1 _ G ⟨fun i d H e hd => ?_, fun i H e hi => ?_, fun i d F2 H v H' e1 e2 hd hy => ?_⟩⟩
        · rw [numD_get] at hd
          obtain ⟨d', q, _⟩ := Option.map_eq_some_iff.mp hd
          obtain ⟨u, q1, _⟩ := rr.get q
          exact ⟨vs, u, .of (e _ _ h1), q1⟩
        · rw [numD_len] at hi
          exact ⟨vs, .of (e _ _ h1), by rw [rr.length]; exact hi⟩
        · rw [numD_get] at hd
          obtain ⟨d', q, rfl⟩ := Option.map_eq_some_iff.mp hd
          obtain ⟨u, q1, q2⟩ := rr.get q
          obtain ⟨T, y, rfl, hT, rfl, hy⟩ := hy
          have := hy vs (.of ((e1.trans e2) _ _ h1))
          rw [q1] at this
          cases (Option.some.inj this)
          have fr := Grow.new (o := HO.tup [.int (k + (i : Nat)), u]) e2 hT
          exact ⟨_, fr, Rep.tup upd_same (.cons (.int _) (.one ((q2.mono e1).mono fr.f)))⟩
    · cases e1
end
end Tw
/-! TwDG: split, join, rjust. -/
namespace Tw
open PySem PySem.Spec PyProof.Rows L2
def dJoin (d : D) (ds : List D) : EM D := match d, ds with
  | .str a, [.lst xs] => match strsOf xs with
    | some ys => if (ys.map (·.length)).sum + ys.length * a.length ≤ 16777216 then ok (.str (PySem.Txt.join a ys)) else none
    | none => none
  | _, _ => none
def dRjust (d : D) (ds : List D) : EM D := match d, ds with
  | .str a, [.int i] => if PySem.PadOk i = true then ok (.str (PySem.Txt.rjust a i)) else none
  | _, _ => none
section
variable {X : Cx} {x : Fx} {o e : Expr} {apos pos : Pos} {g : Ro → EM D} {fs : Ro → EM (List D)}
theorem pk_split1 (ho : PE X o (tK X.K x .bw g)) (ha : PA X [e] (tA X.K x .bw fs)) (hbase : attributeBase o "split" X.env (eval o X.env) = eval o X.env := by rfl) (hline : (apos.endLine == pos.line) = true := by rfl) (hs : starEach [e] X.env = (false, eval e X.env) :: starEach [] X.env := by rfl)
    (hfew : ((backTo pos (starEach [e] X.env)).all (fun x => !x.1) && (backToKw pos (keywordEach [] X.env)).all (fun x => x.1.isSome) && decide ([e].length + ([] : List Keyword).length + (if ([] : List Keyword).isEmpty then 0 else 1) < 30)) = true := by rfl) : PE X (.Call (.Attribute o "split" apos) [e] [] pos) (tK X.K x .fz (eMt dSplit g fs)) :=
  pk_mt PySem.F.slot_str_split PySem.F.type_str_split mt_split (fun F H σ z vs ds q Q ex rv hq w => by
    unfold dSplit dStr1 at hq
    split at hq
    · rename_i a b ea
      cases ea
      split at hq
      · rename_i hc
        cases (Option.some.inj hq)
        rw [Bool.and_eq_true] at hc
        obtain ⟨v, rfl, r1⟩ := rkl1 rv
        rw [rk_str r1]
        refine ⟨_, _, rfl, rfl, by simpa using hc.1, of_decide_eq_true hc.2, fun p hp => ?_⟩
        exact w (upd F p _) _ _ (Grow.new ex hp) (Rep.lst upd_same strsL)
      · cases hq
    · cases hq) nx_str1 ho ha hbase hfew hline hs
theorem pk_join1 (ho : PE X o (tK X.K x .bw g)) (ha : PA X [e] (tA X.K x .bw fs)) (hbase : attributeBase o "join" X.env (eval o X.env) = eval o X.env := by rfl) (hline : (apos.endLine == pos.line) = true := by rfl) (hs : starEach [e] X.env = (false, eval e X.env) :: starEach [] X.env := by rfl)
    (hfew : ((backTo pos (starEach [e] X.env)).all (fun x => !x.1) && (backToKw pos (keywordEach [] X.env)).all (fun x => x.1.isSome) && decide ([e].length + ([] : List Keyword).length + (if ([] : List Keyword).isEmpty then 0 else 1) < 30)) = true := by rfl) : PE X (.Call (.Attribute o "join" apos) [e] [] pos) (tK X.K x .fz (eMt dJoin g fs)) :=
  pk_mt PySem.F.slot_str_join PySem.F.type_str_join mt_join (fun F H σ z vs ds q Q ex rv hq w => by
    unfold dJoin at hq
    split at hq
    · rename_i a xs ea
      cases ea
      split at hq
      · rename_i ys hys
        split at hq
        · rename_i hc
          cases (Option.some.inj hq)
          obtain ⟨v, rfl, r1⟩ := rkl1 rv
          obtain ⟨p, us, rfl, h1, q1⟩ := r1.lst ex
          rw [strsOf_map hys] at q1
          rw [RepL.ofStrs q1] at h1
          exact ⟨_, _, ys, rfl, rfl, .inl (.of h1), hc, w.val ex (.str _) (by decide)⟩
        · cases hq
      · cases hq
    · cases hq) (fun d ds y q => by
    unfold dJoin at q
    split at q
    · split at q
      · split at q <;> cases q
      · cases q
    · cases q) ho ha hbase hfew hline hs
theorem pk_rjust1 (ho : PE X o (tK X.K x .bw g)) (ha : PA X [e] (tA X.K x .bw fs)) (hbase : attributeBase o "rjust" X.env (eval o X.env) = eval o X.env := by rfl) (hline : (apos.endLine == pos.line) = true := by rfl) (hs : starEach [e] X.env = (false, eval e X.env) :: starEach [] X.env := by rfl)
    (hfew : ((backTo pos (starEach [e] X.env)).all (fun x => !x.1) && (backToKw pos (keywordEach [] X.env)).all (fun x => x.1.isSome) && decide ([e].length + ([] : List Keyword).length + (if ([] : List Keyword).isEmpty then 0 else 1) < 30)) = true := by rfl) : PE X (.Call (.Attribute o "rjust" apos) [e] [] pos) (tK X.K x .fz (eMt dRjust g fs)) :=
  pk_mt PySem.F.slot_str_rjust PySem.F.type_str_rjust mt_rjust (fun F H σ z vs ds q Q ex rv hq w => by
    unfold dRjust at hq
    split at hq
    · rename_i a i ea
      cases ea
      split at hq
      · rename_i hc
        cases (Option.some.inj hq)
        obtain ⟨v, rfl, r1⟩ := rkl1 rv
        rw [rk_int r1]
        exact ⟨_, _, rfl, rfl, hc, w.val ex (.str _) (by decide)⟩
      · cases hq
    · cases hq) (fun d ds y q => by
    unfold dRjust at q
    split at q
    · split at q <;> cases q
    · cases q) ho ha hbase hfew hline hs
end
end Tw
/-! TwDH: a list of one's own, lent to a test. -/
namespace Tw
open PySem PySem.Spec PyProof.Rows L2
def bLend (i : Nat) (f : Ro → EM Bool) : Ro → EM Bool := fun ρ => match ρ[i]? with
  | some (.ow ds) => f (ρ.set i (.fz (.lst ds)))
  | some (.fz _) => f ρ
  | _ => none
section
variable {X : Cx} {x : Fx} {a : Expr} {f : Ro → EM Bool} {i : Nat}
theorem pt_lend (h : PT X a (tT X.K x f)) : PT X a (tT X.K x (bLend i f)) := pt_wk h fun σ H Q ⟨F, ρ, r, S, e, w⟩ => by
  unfold bLend at e
  split at e
  · rename_i ds hi
    obtain ⟨F1, e1, S1⟩ := S.freeze hi
    have back : ∀ {F' H' : Hp}, Grow F1 H F' H' → Grow F H F H' := fun {F' H'} G => ⟨.refl _, G.h, S.fh.trans G.h, fun _ _ _ => rfl⟩
    cases r with
    | error y => exact ⟨F1, _, .error y, S1, e, fun F' H' dd G xr => w F H' dd (back G) xr⟩
    | ok d => exact ⟨F1, _, .ok d, S1, e, fun F' H' G => w F H' (back G)⟩
  · exact ⟨F, ρ, r, S, e, w⟩
  · cases e
end
end Tw
/-! TwDI: refusals raised in an except suite (their context is another refusal), and what catches them. -/
namespace Tw
open PySem PySem.Spec PyProof.Rows L2
open L2H (RoomH Hot1 PinOk cxH inv_startH FnH HotC suiteX)
/-! ### refusals whose context may be another -/
theorem sky_imp {B h : Heap} {l : List Env} {a L : Addr} {Z Z' : Obj → Prop} (z : ∀ o, Z o → Z' o) : L2.Sky B l a Z L h → L2.Sky B l a Z' L h
  | .inl ⟨k, n, f, oe, vs, he, hz, r⟩ => .inl ⟨k, n, f, oe, vs, he, z _ hz, r⟩
  | .inr (.inl x) => .inr (.inl (L2H.flyingZ_imp z x))
  | .inr (.inr x) => .inr (.inr ⟨x.1, x.2.1, x.2.2.1, L2H.tracedZ_imp z x.2.2.2⟩)
theorem nTakes {X : Cx} {W : WX} (t : L2.Takes X W) : L2N.Takes X W := fun u s' ⟨a, B, sI, pins, σ, H, cls, d, e, I, nb, up, sky, r⟩ => t u s' ⟨a, B, sI, pins, σ, H, cls, d, e, I, nb, up, sky_imp (fun o z => z.zc) sky, r⟩
theorem takesF2 {X : Cx} : L2.Takes X (fun _ _ _ _ => False) := fun u s' ⟨_, _, _, _, _, _, _, _, _, _, _, _, _, _, _, _, w⟩ => w.elim
/-- a def that may let such a refusal out -/
structure CalZ (P : Program) (w : World) (K : PySem.W.Frag) (mg : Str → Option Value) (base : Heap) (A : Ad) (k : Nat) (nm : Str) (na : Nat) (m : List D → Option Out) : Prop where
  ex : ∃ f fd ps k', k' ≤ k ∧ FnOk P w K mg base (L2.CX P w) k' f fd ps (spD K A na m) ∧ mg nm = some (.ref f) ∧ PySem.W.keepIn K (.ref f) = true ∧ Binds K fd ps []
section
variable {P : Program} {w : World} {K : PySem.W.Frag} {mg : Str → Option Value} {base : Heap}
theorem fnDZ {nm qual : Str} {st : Stmt} {f : Addr} {fd : FuncData} {N ps : List Str} {k : Nat} {A : Ad} {body : Ro → Option Fl} (F : Fun K nm qual st f fd) (S : FnScope N ps (defScope st))
    (hb : ∀ (cdv : Value) (A' : Around) (outer : List Env) (s : Shared) (H F0 : Hp) (E : XK), Room k (A'.deeper (envOfC qual (defScope st) s.heap.objs.size f cdv)) →
      PSs (cxOf (L2.CX P w) P w K mg base N qual (defScope st) f cdv A' outer s H E) (defBody st) (tS K (fxOf A H F0 E) body)) :
    FnOk P w K mg base (L2.CX P w) (k + 1) f fd ps (spD K A ps.length (runD N.length body)) :=
  fun_ok F S (spD_len) fun cdv A' outer s H vs Q E hr ⟨F0, ds, o, e, r, l, hm, wd⟩ => ⟨_, hb cdv A' outer s H F0 E hr, run_body e r hm wd⟩
end
def dCallQ (m : List D → Option Out) (ds : List D) : EM D := match m ds with
  | some (.ret d) => ok d
  | some (.reto ds) => ok (.lst ds)
  | _ => none
section
variable {X : Cx} {x : Fx} {kk : Nat} {n : Str} {p pos : Pos} {e : Expr} {es : List Expr} {fs : Ro → EM (List D)} {m : List D → Option Out} {na : Nat}
theorem pk_fZ (C : CalZ X.prog X.w X.K X.mg X.base x.A kk n na m) (tk : L2.Takes X x.W) (hr : Room kk X.A) (ha : PA X (e :: es) (tA X.K x .fz fs)) (hg : Gl X n := by rfl) (hdb : (n == ("__debug__" : Str)) = false := by decide) (he : starEach (e :: es) X.env = (false, eval e X.env) :: starEach es X.env := by rfl) (hpl : (backTo pos (starEach es X.env)).any (·.1) = false := by rfl) :
    PE X (.Call (.Name n p) (e :: es) [] pos) (tK X.K x .fz (eCall (dDef na [] (dCall m)) fs)) := by
  obtain ⟨f, fd, ps, k', hk, Fn, hm, hkp, hb⟩ := C.ex
  exact pe_wk (pe_callG Fn (hr.mono hk) hg hm hkp hb .nil (E := WE x.W) (fun σ => L2.passAt tk σ) ha hdb he hpl) fun σ H Q ⟨F, ρ, r, S, e, w⟩ =>
    ta_step S e w.x fun cs F1 H1 vs G1 S1 r1 e1 => by
      obtain ⟨hl, e2⟩ := dDef_some e1
      rw [List.append_nil] at hl e2
      rw [List.append_nil]
      exact sp_call S1.fh r1.repL hl e2 (w.grow G1)
theorem sp_callQ {F H : Hp} {σ : L2.St} {Q : VK} {vs : List V} {cs : List D} {r : Except Xn D} (ex : Ex F H) (rv : RepL X.K x.A F vs cs) (hn : cs.length = na) (hd : dCallQ m cs = some r) (w : Wd X.K x .fz r F H σ Q) : spD X.K x.A na m vs H Q (fun _ _ _ => False) := by
  unfold dCallQ at hd
  split at hd
  · rename_i d em
    cases (Option.some.inj hd)
    exact ⟨F, cs, _, ex, rv, hn, em, fun F' H' v G r => w F' H' v G r⟩
  · rename_i ds' em
    cases (Option.some.inj hd)
    refine ⟨F, cs, _, ex, rv, hn, em, ?_⟩
    intro F' H' l ws G e0 e5 e3 e4
    have ex' : Ex F' (upd F' l (.lst ws)) := .new e5
    refine w (upd F' l (.lst ws)) H' (.ref l) ⟨G.f.trans ex', G.h, fun c o hc => ?_, fun c o hc => ?_⟩ (Rep.lst upd_same (e4.mono ex'))
    · by_cases q : c = l
      · subst q; rw [upd_same] at hc; rw [← hc]; exact e3
      · rw [upd_ne q] at hc; exact G.i c o hc
    · rw [upd_ne (ne_of_none hc e0)]
      exact G.n c o hc
  · cases hd
/-- .. where it lets none out -/
theorem pk_fQ (C : CalZ X.prog X.w X.K X.mg X.base x.A kk n na m) (hr : Room kk X.A) (ha : PA X (e :: es) (tA X.K x .fz fs)) (hg : Gl X n := by rfl) (hdb : (n == ("__debug__" : Str)) = false := by decide) (he : starEach (e :: es) X.env = (false, eval e X.env) :: starEach es X.env := by rfl) (hpl : (backTo pos (starEach es X.env)).any (·.1) = false := by rfl) :
    PE X (.Call (.Name n p) (e :: es) [] pos) (tK X.K x .fz (eCall (dDef na [] (dCallQ m)) fs)) := by
  obtain ⟨f, fd, ps, k', hk, Fn, hm, hkp, hb⟩ := C.ex
  exact pe_wk (pe_callG Fn (hr.mono hk) hg hm hkp hb .nil (E := fun _ _ _ _ => False) (fun σ => fun _ _ _ _ _ _ c => (L2.passAt (X := X) takesF2 σ) _ _ _ _ _ (by assumption) c) ha hdb he hpl) fun σ H Q ⟨F, ρ, r, S, e, w⟩ =>
    ta_step S e w.x fun cs F1 H1 vs G1 S1 r1 e1 => by
      obtain ⟨hl, e2⟩ := dDef_some e1
      rw [List.append_nil] at hl e2
      rw [List.append_nil]
      exact sp_callQ S1.fh r1.repL hl e2 (w.grow G1)
end
/-! ### try .. except X as n, any context -/
def sTryAsZ (i : Nat) (ct : Xc → Option Bool) (gb : Ro → Option Fl) (gs : Xn → Ro → Option Fl) : Ro → Option Fl := fun ρ => match gb ρ with
  | some (.ex y ρ1) => match ct y.cl with
    | some true => if noTk ρ1 = true then match gs y (ρ1.set i (.tk 0)) with
      | some (.nx ρ2) => if noTk (ρ2.set i .un) = true then some (.nx (ρ2.set i .un)) else none
      | some (.rt d) => some (.rt d)
      | some (.rto ds) => some (.rto ds)
      | _ => none
      else none
    | _ => none
  | o => o
section
variable {X : Cx} {x : Fx} {n xn : Str} {g : Addr} {i : Nat} {body suite : List Stmt} {b₀ : Stmt} {np pos pos' : Pos} {gb : Ro → Option Fl} {gs : Xn → Ro → Option Fl} {ct : Xc → Option Bool}
theorem pks_tryAsZ (hs : X.stack = X.env :: X.outer) (hf : X.env.frame = some X.env.locals) (hN : X.N.Nodup) (hi : X.N[i]? = some n) (hln : X.env.kindOf n = some .local) (hc : Names X xn (.ref g))
    (hct : ∀ y b, ct y = some b → PySem.W.exmOne X.K (.ref (x.A.xc y)) (.ref g) = some b)
    (hb : ∀ (W : WX) (pn : List (Addr × Obj)) (xe : Value → Shared → Prop), L2.Takes (X.tr pn xe) W → PassesOwn (model X.prog X.w) X.A X.env xe → PSs (X.tr pn xe) body (tS X.K ⟨x.A, x.T, x.B, x.F0, W⟩ gb))
    (hsu : ∀ (a : Addr) (y : Xn) (d : Option Addr) (B' F' : Hp) (pn : List (Addr × Obj)), HotE x.A (X.suite a pn) a y d → XR B' y d → PSs (X.suite a pn) (b₀ :: suite) (tS X.K (fxS x a B' F') (gs y))) :
    PS X (.Try body [.ExceptHandler (some (.Name xn np)) (some n) (b₀ :: suite) pos'] [] [] pos) (tS X.K x (sTryAsZ i ct gb gs)) := by
  refine ps_wk (L2.ps_try_as (Wout := fun _ _ _ _ => False) (tb := fun W => tS X.K ⟨x.A, x.T, x.B, x.F0, W⟩ gb) (ts := fun a cls d E σ H => ∃ (y : Xn) (B' F' : Hp), cls = .ref (x.A.xc y.cl) ∧ XR B' y d ∧ tS X.K (fxS x a B' F') (gs y) E σ H) hs hf hN hi hln hc takesF2 hb (fun a oe cls d pn hz hfl => ?_)) fun E σ H ⟨F, ρ, fl, S, e, w⟩ => ?_
  · refine ⟨fun pins s σ H E I ⟨y, B', F', ec, xr, q⟩ => ?_⟩
    subst ec
    obtain ⟨vs, hv⟩ := hfl
    exact (hsu a y d B' F' _ ⟨oe, List.mem_cons_self, hz, vs, hv⟩ xr).run pins s σ H E I q
  · unfold sTryAsZ at e
    cases eg : gb ρ with
    | none => rw [eg] at e; cases e
    | some f1 =>
      rw [eg] at e
      refine ⟨F, ρ, f1, S, eg, ?_⟩
      cases f1 with
      | nx ρ1 => cases (Option.some.inj e); exact w
      | rt ρ1 => cases (Option.some.inj e); exact w
      | rto ρ1 => cases (Option.some.inj e); exact w
      | bk ρ1 => cases (Option.some.inj e); exact w
      | ct ρ1 => cases (Option.some.inj e); exact w
      | ex y ρ1 =>
        intro F1 H1 σ1 e1 S1 dd xr
        dsimp only at e
        split at e
        rotate_left
        · cases e
        rename_i ec
        refine ⟨true, hct _ _ ec, fun _ a ha => ?_, (fun z => nomatch z)⟩
        by_cases hn : noTk ρ1 = true
        rotate_left
        · rw [if_neg hn] at e; cases e
        rw [if_pos hn] at e
        have Ssub : SR X.K x.A (fun _ => V.ref a) (subB H1 σ1 ρ1) F1 F1 H1 σ1 ρ1 := (S1.sub).reT fun j m q => (noTk_of hn q).elim
        have Stk := Ssub.toTk (i := i) (v := V.ref a) rfl
        refine ⟨y, subB H1 σ1 ρ1, F1, rfl, xr_sub S1 xr, ?_⟩
        cases es : gs y (ρ1.set i (.tk 0)) with
        | none => rw [es] at e; cases e
        | some f2 =>
          rw [es] at e
          refine ⟨F1, _, f2, Stk, es, ?_⟩
          cases f2 with
          | nx ρ2 =>
            dsimp only at e
            by_cases hn2 : noTk (ρ2.set i .un) = true
            rotate_left
            · rw [if_neg hn2] at e; cases e
            rw [if_pos hn2] at e
            cases (Option.some.inj e)
            intro F2 H2 σ2 e2 S2
            exact w F2 H2 (σ2.set i none) (e1.trans e2) (S1.unsub (S2.dropV (i := i)) hn2)
          | rt d =>
            cases (Option.some.inj e)
            exact fun F2 H2 v G r => w F2 H2 v (Grow.unsub S1 G) r
          | rto ds =>
            cases (Option.some.inj e)
            intro F2 H2 l vs G hl h2 h3 h4
            refine w F2 H2 l vs (Grow.unsub S1 G) ?_ h2 h3 h4
            cases q : x.B l with
            | none => rfl
            | some o =>
              have : subB H1 σ1 ρ1 l = none := hl
              rw [S1.subLe l o q] at this; cases this
          | bk ρ2 => cases e
          | ct ρ2 => cases e
          | ex z ρ2 => cases e
end
/-! ### an own class's __init__, in a suite -/
theorem make_handled {A : Around} {C : Addr} {us : List Value} {kw : List (Str × Value)} : (A.under (.builtin "type.__call__" ⟨.ref C :: us, kw⟩)).handled = A.handled := by
  first | rfl | simp [Around.under, Code.weight, Code.isCreation, Code.isGuard, Code.isCaller, Code.frames, Code.isFrame, guardIds]
theorem roomH_make {k : Nat} {A : Around} (r : RoomH (k + 1) A) (C : Addr) (us : List Value) (kw : List (Str × Value)) : RoomH k (A.under (.builtin "type.__call__" ⟨.ref C :: us, kw⟩)) :=
  ⟨by have := r.dp; rw [make_depth]; omega, by have := r.un; rw [make_units]; omega⟩
section
variable {P : Program} {w : World} {K : PySem.W.Frag} {mg : Str → Option Value} {base : Heap}
theorem fnXH {nm qual s0 d0 fl z : Str} {st : Stmt} {f C : Addr} {fd : FuncData} {k : Nat} (F : Fun K nm qual st f fd) (S : FnScope [s0, d0] [s0, d0] (defScope st))
    (hb : ∀ (cdv : Value) (R : Around) (outer : List Env) (s : Shared) (H : Hp) (E : XK) (p : Addr × Obj), PSs (cxH (L2N.CX P w) P w K mg base [s0, d0] qual (defScope st) f cdv R outer s H E p) (defBody st) (tInitX K fl z)) :
    FnH P w K mg base (L2N.CX P w) (k + 1) f fd [s0, d0] (spX K C fl) := by
  obtain ⟨oc, od, kV, doc, pm, an, cdv, ct, osl, rfl, lk, hcd⟩ := F.ex
  refine L2H.fn_ofH lk hcd S (fun vs H Q E ⟨a, n, h, _⟩ => by rw [h]; rfl) fun R outer s H vs Q E p hot hr ⟨a, n, ev, T, hno, ha, q⟩ => ?_
  subst ev
  refine ⟨_, hb cdv R outer s H E p, ?_⟩
  exact ⟨.ref a, rfl, a, C, [.str z], rfl, (by show (1 : Nat) ≤ 1000; decide), T, ha, .int n, rfl, .ref a, rfl, a, C, rfl, T, hno, .inl ⟨ha, q⟩⟩
end
/-- C(e, ..), C's own __init__, in a suite -/
theorem pmk_oexH {X : Cx} {n0 : Str} {e : Expr} {es : List Expr} {ta : TA} {p pos : Pos} {C fI : Addr} {k : Nat} {fd : FuncData} {ps : List Str} {sp : Sp} (T : OexC X.K C) (h1 : PySem.W.findIn X.K (.ref C) "__init__" = some (some (.ref fI))) (h2 : PySem.W.typeIn X.K (.ref fI) = some (.type "function"))
    (Fn : FnH X.prog X.w X.K X.mg X.base (L2N.CX X.prog X.w) k fI fd ps sp) (hc : HotC X) (hr : RoomH (k + 1) X.A) (hb : Binds X.K fd ps []) (hg : Gl X n0) (hm : X.mg n0 = some (.ref C)) (ha : PA X (e :: es) ta)
    (hdb : (n0 == ("__debug__" : Str)) = false := by decide) (hst : starEach (e :: es) X.env = (false, eval e X.env) :: starEach es X.env := by rfl) (hpl : (backTo pos (starEach es X.env)).any (·.1) = false := by rfl) :
    L2N.PMk X (.Call (.Name n0 p) (e :: es) [] pos) (tMkO C sp [] ta) := by
  intro pins sh σ H Q I hh
  obtain ⟨z1, z2, z3, z4, z5, z6, z7, z8, z9, z10, z11, z12, z13, z14, z15, hC, hup⟩ := T.cls
  refine wpAny_Call_Name_kw (ld_glob I hg hm ?_ hdb)
  refine PySem.W.callWith_K (h₀ := X.base) I.ok.mod.kin T.kC (thn (ha.run pos pins sh σ H _ I hh) fun us s1 hq0 => ?_) hst hpl
  obtain ⟨vs, H1, I1, r1, hz, q1⟩ := hq0
  refine ⟨I1.kIn, ?_⟩
  show wpAny _ _ (call (.ref C) us) _ _ _
  obtain ⟨hp, gs, dw, tks, os⟩ := s1
  let a := hp.objs.size + 1
  let hp2 := (hp.push (PySem.W.kdv_tup us)).push (PySem.HandSPX.excO C hp.objs.size)
  have hsz : hp.objs.size ≤ a := Nat.le_succ _
  have hn : H1 a = none := I1.hok.fresh hsz
  have hq := q1 a hn
  rw [List.append_nil] at hq
  have kept : ∀ b o, hp.get? b = some o → hp2.get? b = some o := fun b o he => Heap.get?_push_of_some _ (Heap.get?_push_of_some _ he)
  have new : hp2.get? a = some (PySem.HandSPX.excO C hp.objs.size) := by
    show ((hp.push (PySem.W.kdv_tup us)).push (PySem.HandSPX.excO C hp.objs.size)).get? (hp.objs.size + 1) = _
    heap_get
  have I2 : Inv X pins σ (upd H1 a (exo a C none)) ⟨hp2, gs, dw, tks, os⟩ := I1.laid (t' := tks) (a := a) (o := exo a C none) (h' := hp2) kept hsz (exo_ok new)
  have r2 : Vals (V.ref a :: vs) (Value.ref a :: us) := .cons rfl r1
  have hl : (Value.ref a :: us ++ []).length = ps.length := by
    have e1 := Fn.len _ _ _ _ hq
    have e2 := r2.length
    rw [List.append_nil, ← e1, ← e2]
  have hus : us.length ≤ sizeLine := by rw [← Paired.length r1, sizeLine_eq]; omega
  have b2 := hb _ (Value.ref a :: us) I2.kIn hl
  rw [List.append_nil] at b2
  obtain ⟨q0, ⟨hot1, hot2⟩, hq0⟩ := hc
  have P1 := I2.pin q0 (List.mem_append_left _ hq0)
  have hpin : PinOk X.stack (upd H1 a (exo a C none)) ⟨hp2, gs, dw, tks, os⟩ q0 := ⟨P1.1, P1.2.1, fun hm => (List.mem_cons.mp (I2.stkSub q0.1 hm)).elim P1.2.2.1 P1.2.2.2.1, P1.2.2.2.2⟩
  refine wpAny_call (PySem.HandSPX.call_own F.excBase_ValueError (fun Y => PySem.HandSPX.refsVE_contains Y z5 hup) (I1.kIn _ _ hC) (PySem.W.looks_findIn I1.kIn h1) (fun self => PySem.W.bind_fn I1.kIn self h2) hus
    (codeAny_mono (Fn.run _ X.stack _ _ ⟨Value.ref a :: us, []⟩ (Value.ref a :: us) _ _ (fun _ _ _ => False) q0 (roomH_make hr C us []) ⟨make_handled.trans hot1, hot2⟩ hpin (I2.env0.make C us []) b2 r2 hq) fun r s' hq' => ?_))
  cases r with
  | error er => exact (no_cx' hq').elim
  | ok fo =>
    cases fo with
    | next => exact hq'.elim
    | brk => exact hq'.elim
    | cont => exact hq'.elim
    | ret u =>
      obtain ⟨v, H2, os2, bare2, un2, hok2, rv, ev, dx, fs, ea, ed, hd1, q2⟩ := hq'
      subst ev
      obtain ⟨h3, g3, d3, t3, os3⟩ := s'
      obtain ⟨t0, G, J, kG, ge, hoe, na⟩ := mk_end0 (d2 := d3) (t2 := t3) I1 hsz kept un2 hok2 os2 bare2 ea ed hd1
      refine ⟨rv, a, _, _, ⟨G, g3, d3, t3, os3⟩, _, .ref C, some dx, rfl, J, kG, ge, hoe, ⟨rfl, rfl, fun ws hv => ?_⟩, rfl, rfl, na, rfl, bare2, raises_own T.exC T.tyC, q2⟩
      cases hv
      rfl
/-- an own error class with a field, raised with a whole number in a suite -/
structure XclH (P : Program) (w : World) (K : PySem.W.Frag) (mg : Str → Option Value) (base : Heap) (A : Ad) (k : Nat) (nm : Str) (c : Xc) (fl : Str) : Prop where
  ex : ∃ f fd ps k', k' + 1 ≤ k ∧ OexC K (A.xc c) ∧ PySem.W.findIn K (.ref (A.xc c)) fl = some none ∧ PySem.W.findIn K (.ref (A.xc c)) "__init__" = some (some (.ref f)) ∧ PySem.W.typeIn K (.ref f) = some (.type "function") ∧
    FnH P w K mg base (L2N.CX P w) k' f fd ps (spX K (A.xc c) fl) ∧ Binds K fd ps [] ∧ mg nm = some (.ref (A.xc c))
section
variable {X : Cx} {x : Fx} {e : Expr} {n0 : Str} {p p2 p3 : Pos} {kk : Nat} {c : Xc} {fl : Str} {f : Ro → EM D}
theorem pks_raiseFH {mk : Int → Xn} (hcl : ∀ n, (mk n).cl = c) (hxr : ∀ n H dd, XR H (mk n) dd ↔ ∃ d, dd = some d ∧ H d = some (.xd [(fl, .int n)])) (hc : HotC X) (tk : L2.Takes X x.W) (C : XclH X.prog X.w X.K X.mg X.base x.A kk n0 c fl) (hr : RoomH kk X.A) (ha : PE X e (tK X.K x .fz f)) (hg : Gl X n0 := by rfl)
    (hdb : (n0 == ("__debug__" : Str)) = false := by decide) (hst : starEach [e] X.env = (false, eval e X.env) :: starEach [] X.env := by rfl) (hpl : (backTo p2 (starEach [] X.env)).any (·.1) = false := by rfl) :
    PS X (.Raise (some (.Call (.Name n0 p) [e] [] p2)) none p3) (tS X.K x (sRaiseF mk f)) := by
  obtain ⟨fI, fd, ps, k', hk, T, hno, h1, h2, Fn, hb, hm⟩ := C.ex
  refine ps_wk (L2H.ps_raiseH hc tk (pmk_oexH T h1 h2 Fn hc (hr.mono hk) hb hg hm (pa_cons ha pa_nil hst) hdb hst hpl)) fun E σ H ⟨F, ρ, fo, S, e0, w⟩ => ?_
  refine ts_step S e0 w fun d F1 H1 v G1 S1 r1 e1 w1 => ?_
  unfold sRaiseF at e1
  split at e1
  rotate_left
  · cases e1
  rename_i n
  cases (Option.some.inj e1)
  have ev : v = .int n := by cases r1; rfl
  subst ev
  refine ⟨by simp, fun a hn => ⟨a, n, rfl, T, hno, upd_same, fun dx hdx hne => ⟨rfl, dx, [(fl, .int n)], upd_same, by rw [upd_ne hne, upd_same], ?_, ?_⟩⟩⟩
  · rw [upd_ne hne] at hdx; exact hdx
  · have hd1 : H1 dx = none := by rw [upd_ne hne] at hdx; exact hdx
    have eH : upd (del (upd (upd (upd H1 a (exo a (x.A.xc c) none)) dx (exd dx [(fl, .int n)])) a (exo a (x.A.xc c) (some dx))) a) dx (.xd [(fl, .int n)]) = upd H1 dx (.xd [(fl, .int n)]) := by
      funext b
      by_cases q1 : b = dx
      · rw [q1, upd_same, upd_same]
      · rw [upd_ne q1, upd_ne q1]
        by_cases q2 : b = a
        · rw [q2, del_same, hn]
        · rw [del_ne q2, upd_ne q2, upd_ne q1, upd_ne q2]
    rw [eH]
    have G2 : Grow F1 H1 F1 (upd H1 dx (.xd [(fl, .int n)])) := ⟨.refl _, fun b o hb => by rw [upd_ne (ne_of_none hb hd1)]; exact hb, fun b o hb => by rw [upd_ne (ne_of_none (S1.fh b o hb) hd1)]; exact S1.fh b o hb, fun _ _ _ => rfl⟩
    have := w1 F1 (upd H1 dx (.xd [(fl, .int n)])) σ (.refl _) (S1.grow G2) (some dx) ((hxr n _ _).mpr ⟨dx, rfl, upd_same⟩)
    rw [hcl n] at this
    exact this
end
/-! ### try: .. except X: raise .. else: .. -/
def wR (K : PySem.W.Frag) (c : Value) (ts : Addr → Value → Option Addr → TS) (D : Ends) : WX := fun cls d σ H => PySem.W.exmOne K cls c = some true ∧ ∀ a, H a = none → ts a cls d D σ H
section
variable {X : Cx} {x : Str} {c : Value} {body suite orelse : List Stmt} {b₀ : Stmt} {np pos pos' : Pos} {tb : WX → TS} {u : TS} {ts : Addr → Value → Option Addr → TS} {Wout : WX}
theorem ps_tryR (hs : X.stack = X.env :: X.outer) (hf : X.env.frame = some X.env.locals) (hc : Names X x c) (hpa : ∀ hd : Option Value, PassesOwnAt (model X.prog X.w) (X.A.mark hd) X.A X.env X.xe) (tk : L2.Takes X Wout)
    (hb : ∀ (W : WX) (pn : List (Addr × Obj)) (xe : Value → Shared → Prop), L2N.Takes (X.tr pn xe) W → PassesOwn (model X.prog X.w) X.A X.env xe → PSs (X.tr pn xe) body (tb W))
    (hsu : ∀ (a : Addr) (oe : Obj) (cls : Value) (d : Option Addr) (pn : List (Addr × Obj)), L2.Takes (suiteX X a ((a, oe) :: pn)) Wout → HotC (suiteX X a ((a, oe) :: pn)) → PSs (suiteX X a ((a, oe) :: pn)) (b₀ :: suite) (ts a cls d))
    (ho : PSs X orelse u) :
    PS X (.Try body [.ExceptHandler (some (.Name x np)) none (b₀ :: suite) pos'] orelse [] pos) (fun D σ H => tb (wR X.K c ts D) { D with nx := u D } σ H) := by
  refine ⟨fun pins s σ H D I h => ?_⟩
  have ok := I.ok
  have hfr : X.A.frames = some (X.env :: X.outer) := by rw [ok.frames, hs]
  refine wpAny_Try_except (wpAny_mono ((hb (wR X.K c ts D) (X.pn ++ pins) (fun e s₁ => wpAny (model X.prog X.w) X.A (noteFrame e X.env) (fun _ s₂ => wpAny (model X.prog X.w) X.A (setFlight e none) (fun _ s₃ =>
    wpAny (model X.prog X.w) X.A (handleBy e X.env [.ExceptHandler (some (.Name x np)) none (b₀ :: suite) pos']) (SP X pins D) X.xe s₃) X.xe s₂) X.xe s₁) (fun v s' xx => ?_) PassesOwn.looking).run [] s σ H { D with nx := u D } (I.toTry _) h) (fun f s1 hsp => ?_) (fun e s1 he => he))
  · obtain ⟨a, B, sI, pins', σ', H', cls, d, rfl, J', nb, up, sky, na, os, ag, hyes1, hyes⟩ := xx
    have J : Inv X pins σ' H' sI := J'.ofTry ok
    have sky' : Sky B (X.env :: X.outer) a (L2N.Zn cls d) X.env.locals s'.heap := by rw [← hs]; exact sky
    show wpAny (model X.prog X.w) X.A (noteFrame (.ref a) X.env) _ _ _
    refine L2N.Sky.land L2N.Zn.steady hfr hf sky' fun h3 fl3 up3 => ?_
    have J3 : Inv X pins σ' H' { s' with heap := h3 } := J.landed nb fl3.1 (up.trans up3) os ag
    obtain ⟨oe3, vs3, he3, hz3, hd3⟩ := fl3.there
    have nfr : a ∉ frs (X.env :: X.outer) := fun hm => by
      obtain ⟨_, o', e', hnf⟩ := fl3.2.2.1.mem hm
      rw [he3] at e'; cases e'
      exact hnf _ hd3
    have nL : a ≠ X.env.locals := fun z => nfr (List.mem_filterMap.mpr ⟨X.env, List.mem_cons_self, by rw [hf, z]⟩)
    have nF : a ∉ X.fs := fun hm => by
      obtain ⟨e, he, q⟩ := List.mem_filterMap.mp hm
      exact nfr (List.mem_filterMap.mpr ⟨e, List.mem_cons_of_mem _ he, q⟩)
    have S3 := J3.suite he3 hd3 na nL nF
    refine wpAny_handleBy_cons (codeAny_handlers_test ?_) (by intro q; cases q)
    have LT : PySem.W.Looks (model X.prog X.w) h3 (typeOf (.ref a)) cls := fun A Q E s k q => wpAny_typeOf_ref (k _ _ he3) (by rw [hz3.1]; exact q)
    have LM := PySem.W.exm_one (M := model X.prog X.w) (J3.kIn) LT hyes1
    have test : ∀ {Q : Value → Shared → Prop} {E : Value → Shared → Prop}, Q c { s' with heap := h3 } → wpAny (model X.prog X.w) (X.A.mark (some (.ref a))) (eval (.Name x np) X.env) Q E { s' with heap := h3 } := fun {Q E} q => by
      obtain ⟨hg, hdbg, hm | ⟨hm, hv, hnn⟩⟩ := hc
      · exact ld_glob (X := X.suite a ((a, oe3) :: (X.pn ++ pins))) S3 hg hm q hdbg
      · exact ld_blt (X := X.suite a ((a, oe3) :: (X.pn ++ pins))) S3 hg hm hv q hnn hdbg
    refine test (LM.here (codeAny_handlers_suite (HandSPX.lands_againZ fl3 fun h4 fl4 up4 => ?_)))
    have J4 : Inv X pins σ' H' { s' with heap := h4 } := J.landed nb fl4.1 ((up.trans up3).trans up4) os ag
    obtain ⟨oe4, vs4, he4, hz4, hd4⟩ := fl4.there
    have S4 := J4.suite he4 hd4 na nL nF
    have tkS : L2.Takes (suiteX X a ((a, oe4) :: (X.pn ++ pins))) Wout := fun u2 s2 x2 => by
      obtain ⟨a2, B2, sI2, pn2, σ2, H2, cls2, d2, e2, I2, nb2, up2, sky2, na2, os2, ag2, w2⟩ := x2
      exact tk u2 s2 ⟨a2, B2, sI2, pins, σ2, H2, cls2, d2, e2, L2H.unsuiteX I2 ok, nb2, up2, sky2, na2, os2, ag2, w2⟩
    have hot : HotC (suiteX X a ((a, oe4) :: (X.pn ++ pins))) := ⟨(a, oe4), ⟨rfl, vs4, hd4, hz4.2.2 vs4 hd4⟩, List.mem_cons_self⟩
    refine wpAny_mono ((hsu a oe4 cls d (X.pn ++ pins) tkS hot).run [] _ _ H' _ (L2H.suiteX_of S4) (hyes a na)) (fun f s6 hsp => ?_) (fun e6 s6 z => hpa (some (.ref a)) e6 s6 z)
    cases f with
    | next => obtain ⟨σ6, H6, S6, q6⟩ := hsp; exact ⟨_, _, L2H.unsuiteX S6 ok, q6⟩
    | brk => obtain ⟨σ6, H6, S6, q6⟩ := hsp; exact ⟨_, _, L2H.unsuiteX S6 ok, q6⟩
    | cont => obtain ⟨σ6, H6, S6, q6⟩ := hsp; exact ⟨_, _, L2H.unsuiteX S6 ok, q6⟩
    | ret v => obtain ⟨v6, σ6, H6, S6, r6, q6⟩ := hsp; exact ⟨_, _, _, L2H.unsuiteX S6 ok, r6, q6⟩
  · cases f with
    | next => obtain ⟨σ', H', J', q⟩ := hsp; exact ho.run pins s1 σ' H' D (J'.ofTry ok) q
    | brk => obtain ⟨σ', H', J', q⟩ := hsp; exact ⟨σ', H', J'.ofTry ok, q⟩
    | cont => obtain ⟨σ', H', J', q⟩ := hsp; exact ⟨σ', H', J'.ofTry ok, q⟩
    | ret v => obtain ⟨v', σ', H', J', r, q⟩ := hsp; exact ⟨v', σ', H', J'.ofTry ok, r, q⟩
end
def sTryR (ct : Xc → Option Bool) (gb gr go : Ro → Option Fl) : Ro → Option Fl := fun ρ => match gb ρ with
  | some (.nx ρ1) => go ρ1
  | some (.ex y ρ1) => match ct y.cl with
    | some true => match gr ρ1 with
      | some (.ex z ρ2) => some (.ex z ρ2)
      | _ => none
    | _ => none
  | o => o
section
variable {X : Cx} {x : Fx} {xn : Str} {g : Addr} {body suite orelse : List Stmt} {b₀ : Stmt} {np pos pos' : Pos} {gb gr go : Ro → Option Fl} {ct : Xc → Option Bool}
theorem pks_tryR (hs : X.stack = X.env :: X.outer) (hf : X.env.frame = some X.env.locals) (hc : Names X xn (.ref g)) (hpa : ∀ hd : Option Value, PassesOwnAt (model X.prog X.w) (X.A.mark hd) X.A X.env X.xe) (tk : L2.Takes X x.W)
    (hct : ∀ y b, ct y = some b → PySem.W.exmOne X.K (.ref (x.A.xc y)) (.ref g) = some b)
    (hb : ∀ (W : WX) (pn : List (Addr × Obj)) (xe : Value → Shared → Prop), L2N.Takes (X.tr pn xe) W → PassesOwn (model X.prog X.w) X.A X.env xe → PSs (X.tr pn xe) body (tS X.K ⟨x.A, x.T, x.B, x.F0, W⟩ gb))
    (hsu : ∀ (a : Addr) (oe : Obj) (pn : List (Addr × Obj)), L2.Takes (suiteX X a ((a, oe) :: pn)) x.W → HotC (suiteX X a ((a, oe) :: pn)) → PSs (suiteX X a ((a, oe) :: pn)) (b₀ :: suite) (tS X.K x gr))
    (ho : PSs X orelse (tS X.K x go)) :
    PS X (.Try body [.ExceptHandler (some (.Name xn np)) none (b₀ :: suite) pos'] orelse [] pos) (tS X.K x (sTryR ct gb gr go)) := by
  refine ps_wk (ps_tryR (tb := fun W => tS X.K ⟨x.A, x.T, x.B, x.F0, W⟩ gb) (ts := fun _ _ _ => tS X.K x gr) (u := tS X.K x go) hs hf hc hpa tk hb (fun a oe cls d pn t h => hsu a oe pn t h) ho) fun E σ H ⟨F, ρ, fl, S, e, w⟩ => ?_
  unfold sTryR at e
  cases eg : gb ρ with
  | none => rw [eg] at e; cases e
  | some f1 =>
    rw [eg] at e
    refine ⟨F, ρ, f1, S, eg, ?_⟩
    cases f1 with
    | nx ρ1 => exact fun F' H' σ' ex S2 => ⟨F', ρ1, fl, S2, e, w.mono ex⟩
    | rt d => cases (Option.some.inj e); exact w
    | rto d => cases (Option.some.inj e); exact w
    | bk d => cases (Option.some.inj e); exact w
    | ct d => cases (Option.some.inj e); exact w
    | ex y ρ1 =>
      intro F1 H1 σ1 e1 S1 dd xr
      dsimp only at e
      split at e
      rotate_left
      · cases e
      rename_i ec
      refine ⟨hct _ _ ec, fun a ha => ?_⟩
      cases er : gr ρ1 with
      | none => rw [er] at e; cases e
      | some f2 =>
        rw [er] at e
        cases f2 with
        | ex z ρ2 =>
          cases (Option.some.inj e)
          exact ⟨F1, ρ1, _, S1, er, w.mono e1⟩
        | nx _ => cases e
        | rt _ => cases e
        | rto _ => cases e
        | bk _ => cases e
        | ct _ => cases e
end
/-! ### try: .. except X: .. (no name) -/
def sTryO (ct : Xc → Option Bool) (gb gs : Ro → Option Fl) : Ro → Option Fl := fun ρ => match gb ρ with
  | some (.ex y ρ1) => match ct y.cl with
    | some true => match gs ρ1 with
      | some (.ex _ _) => none
      | o => o
    | _ => none
  | o => o
section
variable {X : Cx} {x : Fx} {xn : Str} {g : Addr} {body suite : List Stmt} {b₀ : Stmt} {np pos pos' : Pos} {gb gs : Ro → Option Fl} {ct : Xc → Option Bool}
theorem pks_tryO (hs : X.stack = X.env :: X.outer) (hf : X.env.frame = some X.env.locals) (hc : Names X xn (.ref g))
    (hct : ∀ y b, ct y = some b → PySem.W.exmOne X.K (.ref (x.A.xc y)) (.ref g) = some b)
    (hb : ∀ (W : WX) (pn : List (Addr × Obj)) (xe : Value → Shared → Prop), L2N.Takes (X.tr pn xe) W → PassesOwn (model X.prog X.w) X.A X.env xe → PSs (X.tr pn xe) body (tS X.K ⟨x.A, x.T, x.B, x.F0, W⟩ gb))
    (hsu : ∀ (a : Addr) (pn : List (Addr × Obj)), PSs (X.suite a pn) (b₀ :: suite) (tS X.K (Fx.never x) gs)) :
    PS X (.Try body [.ExceptHandler (some (.Name xn np)) none (b₀ :: suite) pos'] [] [] pos) (tS X.K x (sTryO ct gb gs)) := by
  refine ps_wk (L2N.ps_try_many (Wout := fun _ _ _ _ => False) (tb := fun W => tS X.K ⟨x.A, x.T, x.B, x.F0, W⟩ gb) (l := [(.ref g, fun _ _ _ => tS X.K (Fx.never x) gs)]) hs hf takesF hb (.cons hc (fun a oe cls d pn _ _ => hsu a _) .nil)) fun E σ H ⟨F, ρ, fl, S, e, w⟩ => ?_
  unfold sTryO at e
  cases eg : gb ρ with
  | none => rw [eg] at e; cases e
  | some f1 =>
    rw [eg] at e
    refine ⟨F, ρ, f1, S, eg, ?_⟩
    cases f1 with
    | nx ρ1 => cases (Option.some.inj e); exact w
    | rt d => cases (Option.some.inj e); exact w
    | rto d => cases (Option.some.inj e); exact w
    | bk d => cases (Option.some.inj e); exact w
    | ct d => cases (Option.some.inj e); exact w
    | ex y ρ1 =>
      intro F1 H1 σ1 e1 S1 dd xr
      dsimp only at e
      split at e
      rotate_left
      · cases e
      rename_i ec
      refine ⟨true, hct _ _ ec, fun _ a ha => ?_, (fun z => nomatch z)⟩
      have S' : SR X.K (Fx.never x).A (Fx.never x).T (Fx.never x).B (Fx.never x).F0 F1 H1 σ1 ρ1 := S1
      cases er : gs ρ1 with
      | none => rw [er] at e; cases e
      | some f2 =>
        rw [er] at e
        refine ⟨F1, ρ1, f2, S', er, ?_⟩
        cases f2 with
        | ex z ρ2 => cases e
        | nx _ => cases (Option.some.inj e); exact w.mono e1
        | rt _ => cases (Option.some.inj e); exact w.mono e1
        | rto _ => cases (Option.some.inj e); exact w.mono e1
        | bk _ => cases (Option.some.inj e); exact w.mono e1
        | ct _ => cases (Option.some.inj e); exact w.mono e1
end
theorem roomX {k : Nat} {X : Cx} {a : Addr} {pn : List (Addr × Obj)} (r : Room k X.A) : RoomH k (suiteX X a pn).A := ⟨r.dp, r.un⟩
/-! ### along a text -/
def iChars (f : Ro → EM D) : Ro → EM (List D) := fun ρ => bnd (f ρ) fun d => match d with
  | .str z => ok (z.cps.toList.map fun c => .str ⟨#[c]⟩)
  | _ => none
theorem itd_str {K : PySem.W.Frag} {A : Ad} {F : Hp} {z : Str} : ItD K A (Its z) F (z.cps.toList.map fun c => .str ⟨#[c]⟩) where
  go := fun i d H _ hd => by
    have := (List.getElem?_eq_some_iff.mp hd).1
    rw [List.length_map, Array.length_toList] at this
    exact this
  stop := fun i H _ hi => by
    rw [List.length_map, Array.length_toList] at hi
    exact hi
  yld := fun i d F1 H v H' _ e2 hd hy => by
    obtain ⟨e, c, h1, h2⟩ := hy
    subst e h2
    rw [List.getElem?_map, Array.getElem?_toList, h1] at hd
    cases hd
    exact ⟨F1, .refl e2, .str _⟩
section
variable {X : Cx} {x : Fx} {a : Expr} {f : Ro → EM D}
theorem pid_str {tg : Expr} (h : PE X a (tK X.K x .fz f)) : PI X tg a (tI X.K x (iChars f)) :=
  pi_wk (pi_str h) fun σ H R ⟨F, ρ, r, S, e, w⟩ => tk_step S e (fun y hy => by subst hy; exact w) fun d F1 H1 v G S1 r1 e1 => by
    split at e1
    · rename_i z
      cases (Option.some.inj e1)
      have : v = .str z := by cases r1; rfl
      subst this
      exact ⟨z, rfl, WdI.d w F1 H1 _ G itd_str⟩
    · cases e1
end
end Tw
namespace K09
open PySem PySem.Spec PyProof.Rows L2 Tw
def isE_BadDay : Xc → Option Bool
  | .badRow => some false
  | .badPot => some false
  | .tooMany => some false
  | _ => none
def isE_BadPot : Xc → Option Bool
  | .badRow => some false
  | .badPot => some true
  | .tooMany => some false
  | _ => none
def isE_BadRow : Xc → Option Bool
  | .badRow => some true
  | .badPot => some false
  | .tooMany => some false
  | _ => none
def isE_NoPot : Xc → Option Bool
  | .badRow => some false
  | .badPot => some false
  | .tooMany => some false
  | _ => none
def isE_NoState : Xc → Option Bool
  | .badRow => some false
  | .badPot => some false
  | .tooMany => some false
  | _ => none
def isE_TooMany : Xc → Option Bool
  | .badRow => some false
  | .badPot => some false
  | .tooMany => some true
  | _ => none
def isE_ValueError : Xc → Option Bool
  | .badRow => some true
  | .badPot => some true
  | .tooMany => some true
  | _ => none
def ct_BadPot : Xc → Option Bool
  | .badRow => some false
  | .badPot => some true
  | .tooMany => some false
  | _ => none
def ct_GardenError : Xc → Option Bool
  | .badRow => some true
  | .badPot => some true
  | .tooMany => some true
  | _ => none
def ct_TooMany : Xc → Option Bool
  | .badRow => some false
  | .badPot => some false
  | .tooMany => some true
  | _ => none
def isPot : Tag → Option Bool
  | .obj .cactus => some true
  | .obj .pot => some true
  | _ => none
def m_law_bad_head : List D → Option Out := runD (["_law_way", "_law_rows_here"] : List Str).length
    (sSeq (sSet 1 (eLst (aCons (eC (.str "garden")) (aCons (eC (.str "garden 1")) (aCons (eC (.str "garden 1 x")) (aCons (eC (.str "garden 01 1")) (aCons (eC (.str "garden 1 2 2")) (aCons (eC (.str "garden 1 3 1 1")) aNil))))))))
    (sSeq (sSet 1 (eOp dAddU (eVarB 1) (eLst (aCons (eC (.str "garden 1 3 2 1")) (aCons (eC (.str "Garden 1 1")) (aCons (eC (.str "pot ivy 2")) (aCons (eC (.str "garden -1 1")) (aCons (eC (.str "garden 1 1 x")) aNil))))))))
    (sRet (eOp dIx (eOp dAddU (eVarB 1) (eLst (aCons (eC (.str "garden 1 100")) (aCons (eC (.str "garden 1 1\t")) (aCons (eC (.str "\t")) (aCons (eC (.str "garden 1 1 #")) (aCons (eC (.str "garden 1 1 # one")) aNil))))))) (eVarB 0)))))
def m_law_bad_pot : List D → Option Out := runD (["_law_way", "_law_rows_here"] : List Str).length
    (sSeq (sSet 1 (eLst (aCons (eC (.str "pot")) (aCons (eC (.str "pot q")) (aCons (eC (.str "pot q 0")) (aCons (eC (.str "pot q 61")) (aCons (eC (.str "pot q 03")) (aCons (eC (.str "pot q 1 1")) (aCons (eC (.str "pot Q 3")) (aCons (eC (.str "pot q3 3")) aNil))))))))))
    (sSeq (sSet 1 (eOp dAddU (eVarB 1) (eLst (aCons (eC (.str "pot q -1")) (aCons (eC (.str "pot q +1")) aNil)))))
    (sSeq (sSet 1 (eOp dAddU (eVarB 1) (eLst (aCons (eC (.str "cactus q 3")) (aCons (eC (.str "cactus q 3 3")) (aCons (eC (.str "cactus q 3 03")) (aCons (eC (.str "cactus q 0 0")) (aCons (eC (.str "cactus q 3 1 1")) aNil))))))))
    (sSeq (sSet 1 (eOp dAddU (eVarB 1) (eLst (aCons (eC (.str "fern q 3")) (aCons (eC (.str "Pot q 3")) (aCons (eC (.str "pot aaaaaaaaaaaaa 3")) (aCons (eC (.str "pot q 100")) (aCons (eC (.str "pot q\t3")) (aCons (eC (.str "pot ivy 2")) (aCons (eC (.str "garden 1 1")) aNil))))))))))
    (sSeq (sSet 1 (eOp dAddU (eVarB 1) (eLst (aCons (eC (.str "pot q 3\t")) (aCons (eC (.str "\tpot q 3")) (aCons (eC (.str "\t")) (aCons (eC (.str "pot q 3 #")) (aCons (eC (.str "pot q 3 # by the door")) (aCons (eC (.str "pot q# 3")) aNil)))))))))
    (sSeq (sSet 1 (eOp dAddU (eVarB 1) (eLst (aCons (eC (.str "pot q` 3")) (aCons (eC (.str "pot {q 3")) (aCons (eC (.str "pot q 3/")) (aCons (eC (.str "cactus `q 3 1")) aNil)))))))
    (sRet (eOp dIx (eVarB 1) (eVarB 0)))))))))
def m_law_cell_at : List D → Option Out := runD (["_law_script", "_law_k"] : List Str).length
    (sSeq (sIf (bT (eOp dLt (eVarB 1) (eCall dLen (aCons (eVarB 0) aNil))))
      (sRet (eOp dIx (eVarB 0) (eVarB 1)))
      sNil)
    (sRet (eC (.int 0))))
def m_law_draw : List D → Option Out := runD (["_law_cell", "_law_k", "_law_many", "_law_primes", "_law_blend"] : List Str).length
    (sSeq (sSet 3 (eTup (aCons (eC (.int 1000003)) (aCons (eC (.int 1000033)) (aCons (eC (.int 1000037)) (aCons (eC (.int 1000039)) (aCons (eC (.int 1000081)) (aCons (eC (.int 1000099)) (aCons (eC (.int 1000117)) (aCons (eC (.int 1000121)) aNil))))))))))
    (sSeq (sSet 4 (eOp dAddU (eOp dAddU (eOp dMulU (eVarB 0) (eC (.int 48271))) (eOp dMulU (eVarB 1) (eC (.int 69621)))) (eOp dMulU (eOp dMod (eOp dDiv (eVarB 0) (eC (.int 1000003))) (eC (.int 1000003))) (eC (.int 40692)))))
    (sRet (eOp dMod (eOp dMod (eVarB 4) (eOp dIx (eVarB 3) (eOp dMod (eVarB 1) (eC (.int 8))))) (eVarB 2)))))
def m_law_sorts : Xn → Option Out := runE (["_law_error", "_law_found"] : List Str).length fun y =>
    (sSeq (sSet 1 (eLst (aCons (eTk 0 (dIsE isE_BadPot y)) (aCons (eTk 0 (dIsE isE_TooMany y)) (aCons (eTk 0 (dIsE isE_NoPot y)) aNil)))))
    (sRet (eOp dAddU (eVarB 1) (eLst (aCons (eTk 0 (dIsE isE_BadDay y)) (aCons (eTk 0 (dIsE isE_BadRow y)) (aCons (eTk 0 (dIsE isE_NoState y)) aNil)))))))
def m_Garden_size : List D → Option Out := runD (["self", "found", "pot"] : List Str).length
    (sSeq (sSet 1 (e1 (dFld "week") (eVarB 0)))
    (sSeq (sFor (gN 2) (iOf (e1 (dFld "pots") (eVarB 0)))
      (sAug 1 dMul (e1 (dFld "gap") (eVarB 2))))
    (sRet (eVar 1))))
def m_is_whole : List D → Option Out := runD (["number"] : List Str).length
    (sRet (eAnd (e1 (dIs tab_int) (eVarB 0)) (eNot (e1 (dIs tab_bool) (eVarB 0)))))
def m_within : List D → Option Out := runD (["number", "low", "high"] : List Str).length
    (sRet (eAnd (eCall (dDef 1 [] (dCall m_is_whole)) (aCons (eVar 0) aNil)) (eChain dLe dLe (eVarB 1) (eVarB 0) (eVarB 2))))
def tb_size : Cl → Option (List D → Option Out)
  | .garden => some m_Garden_size
  | _ => none
def mi_Garden : List D → EM (List D) := runI (Cl.names .garden) (["self", "pots", "cans", "week", "closed", "names", "pot"] : List Str).length
    (iSeq (iS (sIf (bOr (bNot (bT (e1 (dIs tab_list) (eVarB 1)))) (bNot (bT (eCall dAll (aCons (eLc [6] (gN 6) (iOf (eVar 1)) bYes (e1 (dIs isPot) (eVarB 6))) aNil)))))
        (sRaise .badPot)
        sNil))
    (iSeq (iS (sIf (bOr (bNot (bT (eChain dLe dLe (eC (.int 1)) (eCall dLen (aCons (eVarB 1) aNil)) (eC (.int 8))))) (bOr (bNot (bT (eCall (dDef 3 [] (dCall m_within)) (aCons (eVar 2) (aCons (eC (.int 0)) (aCons (eC (.int 8)) aNil)))))) (bNot (bT (eCall (dDef 3 [] (dCall m_within)) (aCons (eVar 3) (aCons (eC (.int 1)) (aCons (eC (.int 14)) aNil))))))))
        (sRaise .tooMany)
        sNil))
    (iSeq (iS (sIf (bOr (bNot (bT (eCall (dDef 1 [] (dCall m_is_whole)) (aCons (eVar 4) aNil)))) (bOr (bT (eOp dLt (eVarB 4) (eC (.int 0)))) (bT (eOp dNe (eOp dShr (eVarB 4) (eVarB 3)) (eC (.int 0))))))
        (sRaise .tooMany)
        sNil))
    (iNames 5 6 (iOf (eVar 1))
    (iSeq (iSto "pots" (eCall dList (aCons (eVarB 1) aNil)))
    (iSeq (iSto "cans" (eVar 2))
    (iSeq (iSto "week" (eVar 3))
    (iSeq (iSto "closed" (eVar 4))
    (iSeq (iSto "order" (eVar 5))
    (iPost .garden (sIf (bT (eOp dGt (eMeth 1 tb_size dCall (eVar 0) aNil) (eC (.int 20000))))
      (sRaise .tooMany)
      sNil)))))))))))
def m_number_in : List D → Option Out := runD (["text"] : List Str).length
    (sSeq (sIf (bOr (bT (eOp dEq (eVarB 0) (eC (.str "")))) (bOr (bT (eOp dGt (eCall dLen (aCons (eVarB 0) aNil)) (eC (.int 2)))) (bOr (bT (eOp dNe (eMt dStrip (eVarB 0) (aCons (eC (.str "0123456789")) aNil)) (eC (.str "")))) (bAnd (bT (eOp dEq (eOp dIx (eVarB 0) (eC (.int 0))) (eC (.str "0")))) (bT (eOp dNe (eVarB 0) (eC (.str "0"))))))))
      (sRet (eC .non))
      sNil)
    (sRet (eCall dInt (aCons (eVarB 0) aNil))))
def m_head_in : List D → Option Out := runD (["words", "numbers", "closed", "last", "day", "word"] : List Str).length
    (sSeq (sSet 1 (eLc [5] (gN 5) (iOf (eSl dSlU (eVarB 0) (oSome (eC (.int 1))) oNone)) bYes (eCall (dDef 1 [] (dCall m_number_in)) (aCons (eVar 5) aNil))))
    (sSeq (sIf (bOr (bT (eOp dNe (eSl dSlU (eVarB 0) oNone (oSome (eC (.int 1)))) (eLst (aCons (eC (.str "garden")) aNil)))) (bOr (bT (eOp dIn (eC .non) (eVarB 1))) (bT (eOp dLt (eCall dLen (aCons (eVarB 1) aNil)) (eC (.int 2))))))
      (sRet (eC .non))
      sNil)
    (sSeq (sSet 2 (eC (.int 0)))
    (sSeq (sSet 3 (e1 dNeg (eC (.int 1))))
    (sSeq (sFor (gN 4) (iOf (eSl dSlU (eVarB 1) (oSome (eC (.int 2))) oNone))
      (sSeq (sIf (bOr (bT (eOp dLe (eVarB 4) (eVarB 3))) (bT (eOp dGe (eVarB 4) (eOp dIx (eVarB 1) (eC (.int 1))))))
        (sRet (eC .non))
        sNil)
      (sSeq (sSet 3 (eVar 4))
      (sSet 2 (eOp dOr (eVarB 2) (eOp dShl (eC (.int 1)) (eVarB 4)))))))
    (sRet (eTup (aCons (eOp dIx (eVarB 1) (eC (.int 0))) (aCons (eOp dIx (eVarB 1) (eC (.int 1))) (aCons (eVar 2) aNil))))))))))
def m_is_name : List D → Option Out := runD (["name"] : List Str).length
    (sRet (eAnd (e1 (dIs tab_str) (eVarB 0)) (eAnd (eChain dLe dLe (eC (.int 1)) (eCall dLen (aCons (eVarB 0) aNil)) (eC (.int 12))) (eOp dEq (eMt dStrip (eVarB 0) (aCons (eC (.str "abcdefghijklmnopqrstuvwxyz")) aNil)) (eC (.str ""))))))
def mi_Pot : List D → EM (List D) := runI (Cl.names .pot) (["self", "name", "gap"] : List Str).length
    (iSeq (iS (sIf (bOr (bNot (bT (eCall (dDef 1 [] (dCall m_is_name)) (aCons (eVar 1) aNil)))) (bNot (bT (eCall (dDef 3 [] (dCall m_within)) (aCons (eVar 2) (aCons (eC (.int 1)) (aCons (eC (.int 60)) aNil)))))))
        (sRaise .badPot)
        sNil))
    (iSeq (iSto "name" (eVar 1))
    (iSeq (iSto "gap" (eVar 2))
    iNil)))
def mi_Cactus : List D → EM (List D) := runI (Cl.names .cactus) (["self", "name", "gap", "rest"] : List Str).length
    (iSeq (iCal (Cl.names .pot) 2 mi_Pot (aCons (eVar 1) (aCons (eVar 2) aNil)))
    (iSeq (iS (sIf (bNot (bT (eCall (dDef 3 [] (dCall m_within)) (aCons (eVar 3) (aCons (eC (.int 0)) (aCons (eOp dSub (eVarB 2) (eC (.int 1))) aNil))))))
        (sRaise .badPot)
        sNil))
    (iSeq (iSto "rest" (eVar 3))
    iNil)))
def m_pot_in : List D → Option Out := runD (["words", "numbers", "word"] : List Str).length
    (sSeq (sSet 1 (eLc [2] (gN 2) (iOf (eSl dSlU (eVarB 0) (oSome (eC (.int 2))) oNone)) bYes (eCall (dDef 1 [] (dCall m_number_in)) (aCons (eVar 2) aNil))))
    (sSeq (sIf (bT (eOp dIn (eC .non) (eVarB 1)))
      (sRet (eC .non))
      sNil)
    (sSeq (sTryO ct_BadPot
      (sSeq (sIf (bAnd (bT (eOp dEq (eOp dIx (eVarB 0) (eC (.int 0))) (eC (.str "pot")))) (bT (eOp dEq (eCall dLen (aCons (eVarB 1) aNil)) (eC (.int 1)))))
        (sRet (eCall (dDef 2 [] (dMake mi_Pot .pot)) (aCons (eOp dIx (eVarB 0) (eC (.int 1))) (aCons (eOp dIx (eVarB 1) (eC (.int 0))) aNil))))
        sNil)
      (sIf (bAnd (bT (eOp dEq (eOp dIx (eVarB 0) (eC (.int 0))) (eC (.str "cactus")))) (bT (eOp dEq (eCall dLen (aCons (eVarB 1) aNil)) (eC (.int 2)))))
        (sRet (eCall (dDef 3 [] (dMake mi_Cactus .cactus)) (aCons (eOp dIx (eVarB 0) (eC (.int 1))) (aCons (eOp dIx (eVarB 1) (eC (.int 0))) (aCons (eOp dIx (eVarB 1) (eC (.int 1))) aNil)))))
        sNil))
      (sRet (eC .non)))
    (sRet (eC .non)))))
def m_words_of : List D → Option Out := runD (["row", "word"] : List Str).length
    (sRet (eLc [1] (gN 1) (iOf (eMt dSplit (eVarB 0) (aCons (eC (.str " ")) aNil))) (bT (eOp dNe (eVarB 1) (eC (.str "")))) (eVar 1)))
def m_read : List D → Option Out := runD (["text", "rows", "head", "pots", "k", "words", "pot", "garden", "one"] : List Str).length
    (sSeq (sSet 1 (eMt dSplit (eVarB 0) (aCons (eC (.str "\n")) aNil)))
    (sSeq (sSet 2 (eC .non))
    (sSeq (sSetO 3 (eLst aNil))
    (sSeq (sFor (gN 4) (iRg dRng1 (aCons (eCall dLen (aCons (eVarB 1) aNil)) aNil))
      (sSeq (sSet 5 (eCall (dDef 1 [] (dCall m_words_of)) (aCons (eOp dIx (eVarB 1) (eVarB 4)) aNil)))
      (sIf (bAnd (bT (eOp dNe (eVarB 5) (eLst aNil))) (bNot (bT (eMt dStarts (eOp dIx (eVarB 5) (eC (.int 0))) (aCons (eC (.str "#")) aNil)))))
        (sIf (bT (eOp dIsN (eVarB 2) (eC .non)))
          (sSeq (sSet 2 (eCall (dDef 1 [] (dCall m_head_in)) (aCons (eVar 5) aNil)))
          (sIf (bT (eOp dIsN (eVarB 2) (eC .non)))
            (sRaiseF .badRow (eOp dAddU (eVarB 4) (eC (.int 1))))
            sNil))
          (sSeq (sSet 6 (eCall (dDef 1 [] (dCall m_pot_in)) (aCons (eVar 5) aNil)))
          (sSeq (sIf (bOr (bT (eOp dIsN (eVarB 6) (eC .non))) (bLend 3 (bT (eOp dIn (e1 (dFld "name") (eVarB 6)) (eLc [8] (gN 8) (iOf (eVar 3)) bYes (e1 (dFld "name") (eVarB 8)))))))
            (sRaiseF .badRow (eOp dAddU (eVarB 4) (eC (.int 1))))
            sNil)
          (gdO 3 (sApp 3 (eVar 6))))))
        sNil)))
    (sSeq (sIf (bT (eOp dIsN (eVarB 2) (eC .non)))
      (sRaiseF .badRow (eOp dAddU (eCall dLen (aCons (eVarB 1) aNil)) (eC (.int 1))))
      sNil)
    (sTryR ct_TooMany
      (frz 3 (sSet 7 (eCall (dDef 4 [] (dMake mi_Garden .garden)) (aCons (eVar 3) (aCons (eOp dIx (eVarB 2) (eC (.int 0))) (aCons (eOp dIx (eVarB 2) (eC (.int 1))) (aCons (eOp dIx (eVarB 2) (eC (.int 2))) aNil)))))))
      (sRaiseF .badRow (eOp dAddU (eCall dLen (aCons (eVarB 1) aNil)) (eC (.int 1))))
      (sRet (eVar 7))))))))
def m_law_refused : List D → Option Out := runD (["_law_text", "_law_error"] : List Str).length
    (sSeq (sTryAsZ 1 ct_GardenError
      (sDrop (eCall (dDef 1 [] (dCall m_read)) (aCons (eVar 0) aNil)))
      (fun y => (sSeq (sIf (bOr (bT (eOp dNe (eTk 1 (dCall (fun _ => m_law_sorts y) [])) (eOp dAddU (eOp dMulU (eLst (aCons (eC (.bl false)) aNil)) (eC (.int 4))) (eLst (aCons (eC (.bl true)) (aCons (eC (.bl false)) aNil)))))) (bNot (bT (eTk 1 (dIsE isE_ValueError y)))))
        (sRet (e1 dNeg (eC (.int 1))))
        sNil)
      (sRet (eTk 1 (dRow y))))))
    (sRet (eC (.int 0))))
def m_law_rows : List D → Option Out := runD (["_law_script", "_law_cell", "_law_rows_here", "_law_k", "_law_more"] : List Str).length
    (sSeq (sSet 1 (eCall (dDef 2 [] (dCall m_law_cell_at)) (aCons (eVar 0) (aCons (eC (.int 0)) aNil))))
    (sSeq (sSetO 2 (eLst (aCons (eMt dJoin (eC (.str " ")) (aCons (eLst (aCons (eC (.str "garden")) (aCons (eCall dStr (aCons (eOp dMod (eVarB 1) (eC (.int 4))) aNil)) (aCons (eCall dStr (aCons (eOp dAddU (eC (.int 1)) (eOp dMod (eOp dDiv (eVarB 1) (eC (.int 4))) (eC (.int 3)))) aNil)) aNil)))) aNil)) aNil)))
    (sSeq (gdO 2 (sApp 2 (eOp dAddU (eC (.str "pot ivy ")) (eCall dStr (aCons (eOp dAddU (eC (.int 1)) (eOp dMod (eOp dDiv (eVarB 1) (eC (.int 12))) (eC (.int 5)))) aNil)))))
    (sSeq (sFor (gN 3) (iRg dRng1 (aCons (eOp dMod (eOp dDiv (eVarB 1) (eC (.int 60))) (eC (.int 3))) aNil))
      (sSeq (sSet 4 (eOp dIx (eTup (aCons (eC (.str "")) (aCons (eC (.str "# one")) (aCons (eC (.str "   ")) (aCons (eC (.str "#one")) aNil))))) (eCall (dDef 3 [] (dCall m_law_draw)) (aCons (eVar 1) (aCons (eVar 3) (aCons (eC (.int 4)) aNil))))))
      (sSeq (gdO 2 (sApp 2 (eVar 4)))
      (gdO 2 (sApp 2 (eMt dJoin (eC (.str " ")) (aCons (eLst (aCons (eC (.str "cactus")) (aCons (eOp dAddU (eC (.str "fern")) (eOp dIx (eC (.str "ab")) (eVarB 3))) (aCons (eC (.str "3")) (aCons (eCall dStr (aCons (eCall (dDef 3 [] (dCall m_law_draw)) (aCons (eVar 1) (aCons (eOp dAddU (eVarB 3) (eC (.int 3))) (aCons (eC (.int 3)) aNil)))) aNil)) aNil))))) aNil)))))))
    (sRetV 2)))))
def m_law_whole : List D → Option Out := runD (["_law_script", "_law_many", "_law_wide", "_law_some", "_law_rows_here", "_law_name"] : List Str).length
    (sSeq (sSet 1 (eOp dAddU (eLst (aCons (eC (.str "garden 1 1")) aNil)) (eLc [5] (gN 5) (iChars (eC (.str "abcdefghi"))) bYes (eOp dAddU (eOp dAddU (eC (.str "pot ")) (eVarB 5)) (eC (.str " 1"))))))
    (sSeq (sSet 2 (eLst (aCons (eC (.str "garden 1 1")) (aCons (eC (.str "pot a 60")) (aCons (eC (.str "pot b 60")) (aCons (eC (.str "pot c 6")) aNil))))))
    (sSeq (sSet 3 (eLst (aCons (eLst (aCons (eC (.str "garden 9 1")) (aCons (eC (.str "pot a 1")) aNil))) (aCons (eLst (aCons (eC (.str "garden 1 0")) (aCons (eC (.str "pot a 1")) aNil))) (aCons (eLst (aCons (eC (.str "garden 1 15")) (aCons (eC (.str "pot a 1")) aNil))) aNil)))))
    (sSeq (sFor (gN 4) (iOf (eOp dAddU (eLst (aCons (eLst (aCons (eC (.str "garden 1 1")) aNil)) (aCons (eVar 1) (aCons (eVar 2) aNil)))) (eVarB 3)))
      (sSeq (sSet 4 (eOp dAddU (eVarB 4) (eOp dMulU (eLst (aCons (eC (.str "#")) aNil)) (eOp dMod (eCall (dDef 2 [] (dCall m_law_cell_at)) (aCons (eVar 0) (aCons (eC (.int 3)) aNil))) (eC (.int 3))))))
      (sIf (bT (eOp dNe (eCall (dDef 1 [] (dCall m_law_refused)) (aCons (eMt dJoin (eC (.str "\n")) (aCons (eVarB 4) aNil)) aNil)) (eOp dAddU (eCall dLen (aCons (eVarB 4) aNil)) (eC (.int 1)))))
        (sRet (eC (.bl false)))
        sNil)))
    (sSeq (sIf (bOr (bT (eOp dNe (eCall (dDef 1 [] (dCall m_law_refused)) (aCons (eC (.str "")) aNil)) (eC (.int 2)))) (bT (eOp dNe (eCall (dDef 1 [] (dCall m_law_refused)) (aCons (eC (.str "# garden 1 1\n")) aNil)) (eC (.int 3)))))
      (sRet (eC (.bl false)))
      sNil)
    (sRet (eOp dEq (eCall (dDef 1 [] (dCall m_law_refused)) (aCons (eMt dJoin (eC (.str "\n")) (aCons (eSl dSlU (eVarB 1) oNone (oSome (eC (.int 9)))) aNil)) aNil)) (eC (.int 0)))))))))
def m_Cactus_words : List D → Option Out := runD (["self"] : List Str).length
    (sRet (eLst (aCons (eC (.str "cactus")) (aCons (e1 (dFld "name") (eVarB 0)) (aCons (eCall dStr (aCons (e1 (dFld "gap") (eVarB 0)) aNil)) (aCons (eCall dStr (aCons (e1 (dFld "rest") (eVarB 0)) aNil)) aNil))))))
def m_Pot_words : List D → Option Out := runD (["self"] : List Str).length
    (sRet (eLst (aCons (eC (.str "pot")) (aCons (e1 (dFld "name") (eVarB 0)) (aCons (eCall dStr (aCons (e1 (dFld "gap") (eVarB 0)) aNil)) aNil)))))
noncomputable def m_bits_of : List D → Option Out := runD (["number", "found", "place"] : List Str).length
    (sSeq (sSetO 1 (eLst aNil))
    (sSeq (sSet 2 (eC (.int 0)))
    (sSeq (sWhile (bT (eOp dGt (eVarB 0) (eC (.int 0))))
      (sSeq (sIf (bT (eOp dEq (eOp dAnd (eVarB 0) (eC (.int 1))) (eC (.int 1))))
        (gdO 1 (sApp 1 (eVar 2)))
        sNil)
      (sSeq (sSet 0 (eOp dShr (eVarB 0) (eC (.int 1))))
      (sAug 2 (dI (fun _ _ => true) fun i j => i + j) (eC (.int 1))))))
    (sRetV 1))))
def tb_words : Cl → Option (List D → Option Out)
  | .cactus => some m_Cactus_words
  | .pot => some m_Pot_words
  | _ => none
noncomputable def m_written : List D → Option Out := runD (["garden", "head", "day", "pot"] : List Str).length
    (sSeq (sSetO 1 (eLst (aCons (eC (.str "garden")) (aCons (eCall dStr (aCons (e1 (dFld "cans") (eVarB 0)) aNil)) (aCons (eCall dStr (aCons (e1 (dFld "week") (eVarB 0)) aNil)) aNil)))))
    (sSeq (sFor (gN 2) (iOf (eCall (dDef 1 [] (dCall m_bits_of)) (aCons (e1 (dFld "closed") (eVarB 0)) aNil)))
      (gdO 1 (sApp 1 (eCall dStr (aCons (eVarB 2) aNil)))))
    (sRet (eMt dJoin (eC (.str "\n")) (aCons (eOp dAddU (eLst (aCons (eMt dJoin (eC (.str " ")) (aCons (eVarB 1) aNil)) aNil)) (eLc [3] (gN 3) (iOf (e1 (dFld "pots") (eVarB 0))) bYes (eMt dJoin (eC (.str " ")) (aCons (eMeth 1 tb_words dCall (eVar 3) aNil) aNil)))) aNil)))))
noncomputable def m_law : List D → Option Out := runD (["_law_script", "_law_rows_here", "_law_good", "_law_k", "_law_cell", "_law_other", "_law_place", "_law_odd", "_law_bad", "_law_ahead", "_law_head", "_law_plain", "_law_row"] : List Str).length
    (sSeq (sSet 1 (eCall (dDef 1 [] (dCall m_law_rows)) (aCons (eVar 0) aNil)))
    (sSeq (sSet 2 (eMt dJoin (eC (.str "\n")) (aCons (eVarB 1) aNil)))
    (sSeq (sIf (bT (eOp dNe (eCall (dDef 1 [] (dCall m_law_refused)) (aCons (eVar 2) aNil)) (eC (.int 0))))
      (sRet (eC (.bl false)))
      sNil)
    (sSeq (sFor (gN 3) (iRg dRng1 (aCons (eC (.int 4)) aNil))
      (sSeq (sSet 4 (eOp dAddU (eCall (dDef 2 [] (dCall m_law_cell_at)) (aCons (eVar 0) (aCons (eC (.int 1)) aNil))) (eOp dMulU (eC (.int 5)) (eVarB 3))))
      (sSeq (sSet 5 (eCall (dDef 2 [] (dCall m_law_cell_at)) (aCons (eVar 0) (aCons (eC (.int 2)) aNil))))
      (sSeq (sSet 6 (eOp dAddU (eC (.int 2)) (eCall (dDef 3 [] (dCall m_law_draw)) (aCons (eVar 5) (aCons (eVar 3) (aCons (eOp dSub (eCall dLen (aCons (eVarB 1) aNil)) (eC (.int 1))) aNil))))))
      (sSeq (sSet 7 (eOp dAddU (eOp dMulS (eC (.str " ")) (eOp dMod (eVarB 4) (eC (.int 3)))) (eCall (dDef 1 [] (dCall m_law_bad_pot)) (aCons (eOp dMod (eVarB 4) (eC (.int 32))) aNil))))
      (sSeq (sSet 8 (eOp dAddU (eOp dAddU (eSl dSlU (eVarB 1) oNone (oSome (eVarB 6))) (eLst (aCons (eVar 7) aNil))) (eSl dSlU (eVarB 1) (oSome (eVarB 6)) oNone)))
      (sSeq (sSet 8 (eOp dAddU (eVarB 8) (eOp dMulU (eLst (aCons (eC (.str "what")) aNil)) (eOp dMod (eOp dDiv (eVarB 4) (eC (.int 28))) (eC (.int 2))))))
      (sSeq (sIf (bT (eOp dNe (eCall (dDef 1 [] (dCall m_law_refused)) (aCons (eMt dJoin (eC (.str "\n")) (aCons (eVarB 8) aNil)) aNil)) (eOp dAddU (eVarB 6) (eC (.int 1)))))
        (sRet (eC (.bl false)))
        sNil)
      (sSeq (sSet 9 (eOp dMod (eOp dDiv (eVarB 4) (eC (.int 7))) (eC (.int 3))))
      (sSeq (sSet 7 (eCall (dDef 1 [] (dCall m_law_bad_head)) (aCons (eOp dMod (eVarB 4) (eC (.int 16))) aNil)))
      (sSeq (sSet 10 (eOp dAddU (eOp dAddU (eOp dMulU (eLst (aCons (eC (.str "#")) aNil)) (eVarB 9)) (eLst (aCons (eVar 7) aNil))) (eSl dSlU (eVarB 1) (oSome (eC (.int 1))) oNone)))
      (sIf (bT (eOp dNe (eCall (dDef 1 [] (dCall m_law_refused)) (aCons (eMt dJoin (eC (.str "\n")) (aCons (eVarB 10) aNil)) aNil)) (eOp dAddU (eC (.int 1)) (eVarB 9))))
        (sRet (eC (.bl false)))
        sNil))))))))))))
    (sSeq (sSet 11 (eLc [12] (gN 12) (iOf (eVar 1)) (bAnd (bT (eOp dNe (eMt dStrip (eVarB 12) (aCons (eC (.str " ")) aNil)) (eC (.str "")))) (bNot (bT (eMt dStarts (eVarB 12) (aCons (eC (.str "#")) aNil))))) (eVar 12)))
    (sSeq (sIf (bT (eOp dNe (eCall (dDef 1 [] (dCall m_written)) (aCons (eCall (dDef 1 [] (dCallQ m_read)) (aCons (eVar 2) aNil)) aNil)) (eMt dJoin (eC (.str "\n")) (aCons (eVarB 11) aNil))))
      (sRet (eC (.bl false)))
      sNil)
    (sRet (eCall (dDef 1 [] (dCall m_law_whole)) (aCons (eVar 0) aNil)))))))))
end K09
namespace K09
open PySem PySem.Spec PyProof.Rows L2 Tw
/-! the program's defs, in plain words -/
theorem atI_nat {α : Type} (xs : List α) (k : Nat) : atI xs (k : Int) = xs[k]? := by
  unfold atI ixN
  by_cases h : k < xs.length
  · rw [if_pos (by omega), if_pos (by omega)]
    simp
  · rw [if_pos (by omega), if_neg (by omega)]
    rw [List.getElem?_eq_none (by omega)]
    rfl
theorem for_ev {t : Tg} {fi : Ro → EM (List D)} {g : Ro → Option Fl} {ρ : Ro} {ds : List D} {r : Option Fl} (h : fi ρ = some (.ok ds)) (h2 : forD t g ds ρ = r) : sFor t fi g ρ = r := by unfold sFor; rw [h]; exact h2
theorem cell_is (ns : List Int) (k : Nat) : m_law_cell_at [.scr ns, .int k] = some (.ret (.int (ns.getD k 0))) := by
  have hc : eOp dLt (eVarB 1) (eCall dLen (aCons (eVarB 0) aNil)) (startE 2 [.scr ns, .int k]) = some (.ok (.bl (decide ((k : Int) < ns.length)))) := op_ev (d := .int k) (e := .int ns.length) rfl (call_ev (ds := [.scr ns]) rfl rfl) rfl
  by_cases h : k < ns.length
  · refine run_ret (seq_rt (if_t (bT_ev (hc.trans ?_)) (ret_ev (op_ev (d := .scr ns) (e := .int k) rfl rfl ?_))))
    · rw [decide_eq_true (by omega)]
    · show (atI ns (k : Int)).map (fun n => Except.ok (D.int n)) = _
      rw [atI_nat, List.getD_eq_getElem?_getD, List.getElem?_eq_getElem h]; rfl
  · refine run_ret ((seq_nx (if_f (bT_ev (hc.trans ?_)) rfl)).trans (ret_ev ?_))
    · rw [decide_eq_false (by omega)]
    · rw [List.getD_eq_getElem?_getD, List.getElem?_eq_none (by omega)]; rfl
theorem within_is (i lo hi : Int) : m_within [.int i, .int lo, .int hi] = some (.ret (.bl (decide (lo ≤ i) && decide (i ≤ hi)))) := by
  have hw : m_is_whole [.int i] = some (.ret (.bl true)) := rfl
  unfold m_within runD
  by_cases h1 : lo ≤ i <;> simp [startE, sRet, eAnd, eCall, aCons, aNil, eVar, eVarB, ok, bnd_ok, dDef, dCall, hw, toB, eChain, dLe, dB, h1, toS_ok, outOf]
theorem within_no {i lo hi : Int} (h : i < lo ∨ hi < i) : dDef 3 [] (dCall m_within) [.int i, .int lo, .int hi] = some (.ok (.bl false)) := by
  refine (def_all rfl).trans (call_ret ?_)
  rw [within_is]
  rcases h with h | h
  · rw [decide_eq_false (by omega)]; rfl
  · rw [decide_eq_false (show ¬ i ≤ hi by omega), Bool.and_false]
theorem within_yes {i lo hi : Int} (h : lo ≤ i ∧ i ≤ hi) : dDef 3 [] (dCall m_within) [.int i, .int lo, .int hi] = some (.ok (.bl true)) := by
  refine (def_all rfl).trans (call_ret ?_)
  rw [within_is, decide_eq_true h.1, decide_eq_true h.2]; rfl
/-- no whole number -/
def odd : D → Bool
  | .int _ => false
  | .obj _ _ => false
  | _ => true
theorem within_odd {d : D} {lo hi : D} (h : odd d = true) : dDef 3 [] (dCall m_within) [d, lo, hi] = some (.ok (.bl false)) := by
  refine (def_all rfl).trans (call_ret ?_)
  cases d <;> first | rfl | cases h
/-- a pot -/
structure P where
  nm : Str
  gap : Int
  rest : Option Int
def P.d (p : P) : D := match p.rest with
  | none => .obj .pot [.str p.nm, .int p.gap]
  | some r => .obj .cactus [.str p.nm, .int p.gap, .int r]
theorem P.gap_is (p : P) : dFld "gap" p.d = some (.ok (.int p.gap)) := by
  unfold P.d
  cases p.rest <;> rfl
theorem P.tag (p : P) : isPot (tagOf p.d) = some true := by
  unfold P.d
  cases p.rest <;> rfl
theorem P.nm_is (p : P) : nmOf p.d = some p.nm := by
  unfold P.d
  cases p.rest <;> rfl
abbrev gdD (ps : List P) (cans week closed : Int) (ks : List (Str × Int)) : D := .obj .garden [.lst (ps.map P.d), .int cans, .int week, .int closed, .ord ks]
def prodG (a : Int) : List P → Int
  | [] => a
  | p :: ps => prodG (a * p.gap) ps
def Gap (ps : List P) : Prop := ∀ p ∈ ps, 1 ≤ p.gap ∧ p.gap ≤ 60
theorem mul_ev {i j : Int} (h : 0 ≤ j ∧ j ≤ 60) : dMul (.int i) (.int j) = some (.ok (.int (i * j))) := by
  show (if cMul i j = true then ok (D.int (i * j)) else none) = _
  rw [if_pos]
  · rfl
  · unfold cMul
    rw [Bool.or_eq_true]
    refine Or.inr ?_
    rw [Bool.and_eq_true]
    exact ⟨decide_eq_true (by omega), decide_eq_true (by omega)⟩
theorem size_go {g : D} : ∀ {ps : List P} {a : Int} {e2 : Ent}, Gap ps → ∃ e, forD (gN 2) (sAug 1 dMul (e1 (dFld "gap") (eVarB 2))) (ps.map P.d) [.fz g, .fz (.int a), e2] = some (.nx [.fz g, .fz (.int (prodG a ps)), e])
  | [], a, e2, h => ⟨e2, rfl⟩
  | p :: ps, a, e2, h => by
    obtain ⟨e, ih⟩ := size_go (g := g) (ps := ps) (a := a * p.gap) (e2 := .fz p.d) fun q hq => h q (List.mem_cons_of_mem _ hq)
    refine ⟨e, ?_⟩
    rw [List.map_cons]
    refine (for_cons (ρ1 := [.fz g, .fz (.int a), .fz p.d]) (ρ2 := [.fz g, .fz (.int (a * p.gap)), .fz p.d]) rfl ?_).trans ih
    have hp := h p List.mem_cons_self
    have hm := mul_ev (i := a) (j := p.gap) (by omega)
    have hg := p.gap_is
    show toS _ (bnd (some (.ok p.d)) (dFld "gap")) _ = _
    rw [bnd_ok, hg]
    show toS _ (dMul (.int a) (.int p.gap)) _ = _
    rw [hm]
    rfl
theorem size_is {ps : List P} {cans week closed : Int} {ks : List (Str × Int)} (h : Gap ps) : m_Garden_size [gdD ps cans week closed ks] = some (.ret (.int (prodG week ps))) := by
  obtain ⟨e, hl⟩ := size_go (g := gdD ps cans week closed ks) (ps := ps) (a := week) (e2 := .un) h
  exact run_ret ((seq_nx (ρ' := [.fz (gdD ps cans week closed ks), .fz (.int week), .un]) rfl).trans ((seq_nx (for_ev (ds := ps.map P.d) rfl hl)).trans (ret_ev rfl)))
theorem a_cons {f : Ro → EM D} {fs : Ro → EM (List D)} {ρ : Ro} {d : D} {ds : List D} (h : f ρ = some (.ok d)) (h2 : fs ρ = some (.ok ds)) : aCons f fs ρ = some (.ok (d :: ds)) := by unfold aCons; rw [h, bnd_ok, h2]; rfl
theorem e1_ev {h : D → EM D} {f : Ro → EM D} {ρ : Ro} {d : D} {r : EM D} (h1 : f ρ = some (.ok d)) (h2 : h d = r) : e1 h f ρ = r := by unfold e1; rw [h1]; exact h2
theorem ix_lst {xs : List D} {k : Nat} {d : D} (h : xs[k]? = some d) : dIx (.lst xs) (.int k) = some (.ok d) := by
  show (atI xs (k : Int)).map Except.ok = _
  rw [atI_nat, h]; rfl
theorem ix_tup {xs : List D} {k : Nat} {d : D} (h : xs[k]? = some d) : dIx (.tup xs) (.int k) = some (.ok d) := by
  show (atI xs (k : Int)).map Except.ok = _
  rw [atI_nat, h]; rfl
def okD (d : D) (g : Int) : Bool := match d with
  | .int i => decide (0 ≤ i) && decide (i ≤ g - 1)
  | _ => false
def valD : D → Int
  | .int i => i
  | _ => 0
def noObj : D → Bool
  | .obj _ _ => false
  | _ => true
theorem within_okD {d : D} {g : Int} (h : noObj d = true) : dDef 3 [] (dCall m_within) [d, .int 0, .int (g - 1)] = some (.ok (.bl (okD d g))) := by
  cases d with
  | int i => exact (def_all rfl).trans (call_ret (within_is i 0 (g - 1)))
  | obj c cs => cases h
  | _ => exact within_odd rfl
def numGo : Int → List D → List P → Option Int
  | a, [], [] => some a
  | a, d :: ds, p :: ps => if okD d p.gap = true then numGo (a * p.gap + valD d) ds ps else none
  | _, _, _ => none
abbrev bNum : Ro → Option Fl := sSeq (sIf (bNot (bT (eCall (dDef 3 [] (dCall m_within)) (aCons (eOp dIx (eOp dIx (eVarB 1) (eC (.int 1))) (eVarB 3)) (aCons (eC (.int 0)) (aCons (eOp dSub (e1 (dFld "gap") (eOp dIx (e1 (dFld "pots") (eVarB 0)) (eVarB 3))) (eC (.int 1))) aNil))))))
        (sRaise .noState)
        sNil)
      (sSet 2 (eOp dAddU (eOp dMulU (eVarB 2) (e1 (dFld "gap") (eOp dIx (e1 (dFld "pots") (eVarB 0)) (eVarB 3)))) (eOp dIx (eOp dIx (eVarB 1) (eC (.int 1))) (eVarB 3))))
theorem rng1_is (n : Nat) (h : n ≤ 100000) : dRng1 [.int (n : Int)] = some (.ok ((List.range' 0 n).map fun (i : Nat) => .int (i : Int))) := by
  unfold dRng1
  dsimp only
  rw [if_pos ⟨by omega, by omega⟩, Int.toNat_natCast, List.range_eq_range']
  rfl
section
variable {ps : List P} {cans week closed : Int} {ks : List (Str × Int)} {day : D} {ds : List D}
theorem drop_get {α : Type} {l r : List α} {s : Nat} {a : α} (h : l.drop s = a :: r) : l[s]? = some a ∧ l.drop (s + 1) = r := by
  have h1 : (l.drop s)[0]? = some a := by rw [h]; rfl
  rw [List.getElem?_drop] at h1
  refine ⟨by simpa using h1, ?_⟩
  have : (l.drop s).drop 1 = r := by rw [h]; rfl
  rw [List.drop_drop] at this
  exact this
theorem num_go (hg : Gap ps) (hds : ∀ d ∈ ds, noObj d = true) : ∀ (ps1 : List P) (ds1 : List D) (s : Nat) (a : Int) (e : Ent), ps.drop s = ps1 → ds.drop s = ds1 → ds1.length = ps1.length →
    (∃ r e', numGo a ds1 ps1 = some r ∧ forD (gN 3) bNum ((List.range' s ps1.length).map fun (i : Nat) => .int (i : Int)) [.fz (gdD ps cans week closed ks), .fz (.tup [day, .tup ds]), .fz (.int a), e] = some (.nx [.fz (gdD ps cans week closed ks), .fz (.tup [day, .tup ds]), .fz (.int r), e'])) ∨
    ∃ ρ', numGo a ds1 ps1 = none ∧ forD (gN 3) bNum ((List.range' s ps1.length).map fun (i : Nat) => .int (i : Int)) [.fz (gdD ps cans week closed ks), .fz (.tup [day, .tup ds]), .fz (.int a), e] = some (.ex .noState ρ')
  | [], ds1, s, a, e, h1, h2, hl => by
    have : ds1 = [] := by cases ds1 with | nil => rfl | cons _ _ => cases hl
    subst this
    exact .inl ⟨a, e, rfl, rfl⟩
  | p :: ps1, [], s, a, e, h1, h2, hl => by cases hl
  | p :: ps1, d :: ds1, s, a, e, h1, h2, hl => by
    obtain ⟨g1, g2⟩ := drop_get h1
    obtain ⟨d1, d2⟩ := drop_get h2
    have hp := hg p (List.mem_of_getElem? g1)
    have hd := hds d (List.mem_of_getElem? d1)
    have gp : (ps.map P.d)[s]? = some p.d := by rw [List.getElem?_map, g1]; rfl
    let ρ1 : Ro := [.fz (gdD ps cans week closed ks), .fz (.tup [day, .tup ds]), .fz (.int a), .fz (.int (s : Nat))]
    have eD : eOp dIx (eOp dIx (eVarB 1) (eC (.int 1))) (eVarB 3) ρ1 = some (.ok d) := op_ev (d := .tup ds) (e := .int (s : Nat)) rfl rfl (ix_tup d1)
    have eG : e1 (dFld "gap") (eOp dIx (e1 (dFld "pots") (eVarB 0)) (eVarB 3)) ρ1 = some (.ok (.int p.gap)) := e1_ev (d := p.d) (op_ev (d := .lst (ps.map P.d)) (e := .int (s : Nat)) rfl rfl (ix_lst gp)) p.gap_is
    have eW : eCall (dDef 3 [] (dCall m_within)) (aCons (eOp dIx (eOp dIx (eVarB 1) (eC (.int 1))) (eVarB 3)) (aCons (eC (.int 0)) (aCons (eOp dSub (e1 (dFld "gap") (eOp dIx (e1 (dFld "pots") (eVarB 0)) (eVarB 3))) (eC (.int 1))) aNil))) ρ1 = some (.ok (.bl (okD d p.gap))) :=
      call_ev (a_cons eD (a_cons rfl (a_cons (op_ev (d := .int p.gap) (e := .int 1) eG rfl rfl) rfl))) (within_okD hd)
    have hrange : (List.range' s (p :: ps1).length).map (fun (i : Nat) => D.int (i : Int)) = .int (s : Nat) :: (List.range' (s + 1) ps1.length).map fun (i : Nat) => .int (i : Int) := by
      rw [List.length_cons, List.range'_succ, List.map_cons]
    rw [hrange]
    cases ok : okD d p.gap with
    | true =>
      obtain ⟨i, rfl⟩ : ∃ i, d = .int i := by
        cases d <;> first | exact ⟨_, rfl⟩ | cases ok
      have hmul : dMulU (.int a) (.int p.gap) = some (.ok (.int (a * p.gap))) := mul_ev (by omega)
      have step : bNum ρ1 = some (.nx [.fz (gdD ps cans week closed ks), .fz (.tup [day, .tup ds]), .fz (.int (a * p.gap + i)), .fz (.int (s : Nat))]) := by
        refine (seq_nx (if_f (not_tt _ _ true (bT_ev (eW.trans (by rw [ok])))) rfl)).trans (set_ev (i := 2) (d := .int (a * p.gap + i)) (op_ev (d := .int (a * p.gap)) (e := .int i) (op_ev (d := .int a) (e := .int p.gap) rfl eG hmul) eD rfl))
      have hn : numGo a (.int i :: ds1) (p :: ps1) = numGo (a * p.gap + i) ds1 ps1 := by
        show (if okD (.int i) p.gap = true then numGo (a * p.gap + valD (.int i)) ds1 ps1 else none) = _
        rw [ok, if_pos rfl]; rfl
      rw [hn, for_cons (ρ1 := ρ1) rfl step]
      exact num_go hg hds ps1 ds1 (s + 1) (a * p.gap + i) (.fz (.int (s : Nat))) g2 d2 (by simpa using hl)
    | false =>
      refine .inr ⟨ρ1, ?_, for_ex (ρ1 := ρ1) rfl (seq_ex (if_t (not_tt _ _ false (bT_ev (eW.trans (by rw [ok])))) rfl))⟩
      show (if okD d p.gap = true then _ else none) = none
      rw [ok]; rfl
end
theorem meth_ev {na : Nat} {tab : Cl → Option (List D → Option Out)} {dc : (List D → Option Out) → List D → EM D} {g : Ro → EM D} {fs : Ro → EM (List D)} {ρ : Ro} {c : Cl} {cs ds : List D} {m : List D → Option Out} {r : EM D} (h1 : g ρ = some (.ok (.obj c cs))) (h2 : tab c = some m) (h3 : fs ρ = some (.ok ds)) (hl : (D.obj c cs :: ds).length = na) (h4 : dc m (.obj c cs :: ds) = r) : eMeth na tab dc g fs ρ = r := by
  unfold eMeth
  rw [h1, bnd_ok]
  dsimp only
  rw [h2]
  dsimp only
  rw [h3, bnd_ok, def_all hl]
  exact h4
section
variable {ps : List P} {cans week closed : Int} {ks : List (Str × Int)} {day : D} {ds : List D}
/-! number refuses -/
/-! state -/
def stGo : Int → List P → List D → Int × List D
  | m, [], acc => (m, acc)
  | m, p :: ps, acc => stGo (m / p.gap) ps (acc ++ [.int (m % p.gap)])
abbrev bSt : Ro → Option Fl := sSeq (sUnp (gT (gsC (gN 1) (gsC (gN 4) gs0)) 2) (eCall dDivmod (aCons (eVarB 1) (aCons (e1 (dFld "gap") (eVarB 3)) aNil))))
      (gdO 2 (sApp 2 (eVar 4)))
theorem st_go {g : D} : ∀ (qs : List P) (m : Int) (acc : List D) (e3 e4 : Ent), Gap qs → acc.length + qs.length ≤ 1000 → ∃ e3' e4', forD (gN 3) bSt (qs.map P.d) [.fz g, .fz (.int m), .ow acc, e3, e4] = some (.nx [.fz g, .fz (.int (stGo m qs acc).1), .ow (stGo m qs acc).2, e3', e4'])
  | [], m, acc, e3, e4, _, _ => ⟨e3, e4, rfl⟩
  | p :: qs, m, acc, e3, e4, hg, hl => by
    have hp := hg p List.mem_cons_self
    obtain ⟨e3', e4', ih⟩ := st_go (g := g) qs (m / p.gap) (acc ++ [.int (m % p.gap)]) (.fz p.d) (.fz (.int (m % p.gap))) (fun q hq => hg q (List.mem_cons_of_mem _ hq)) (by simp only [List.length_append, List.length_cons, List.length_nil] at hl ⊢; omega)
    refine ⟨e3', e4', ?_⟩
    rw [List.map_cons]
    refine (for_cons (ρ1 := [.fz g, .fz (.int m), .ow acc, .fz p.d, e4]) (ρ2 := [.fz g, .fz (.int (m / p.gap)), .ow (acc ++ [.int (m % p.gap)]), .fz p.d, .fz (.int (m % p.gap))]) rfl ?_).trans ih
    have hdm : eCall dDivmod (aCons (eVarB 1) (aCons (e1 (dFld "gap") (eVarB 3)) aNil)) [.fz g, .fz (.int m), .ow acc, .fz p.d, e4] = some (.ok (.tup [.int (m / p.gap), .int (m % p.gap)])) := by
      refine call_ev (ds := [.int m, .int p.gap]) (a_cons rfl (a_cons (e1_ev (d := p.d) rfl p.gap_is) rfl)) ?_
      show (if cDiv m p.gap = true then ok (D.tup [.int (m / p.gap), .int (m % p.gap)]) else none) = _
      rw [if_pos]
      · rfl
      · unfold cDiv
        rw [decide_eq_true (by omega), decide_eq_true (by omega)]; rfl
    refine (seq_nx (ρ' := [.fz g, .fz (.int (m / p.gap)), .ow acc, .fz p.d, .fz (.int (m % p.gap))]) ?_).trans ?_
    · unfold sUnp
      rw [hdm, toS_ok]
      rfl
    · show (if acc.length < sizeLine then some (Fl.nx _) else none) = _
      rw [if_pos (by have := sizeLine_eq; omega)]
      rfl
theorem size_ev {ρ : Ro} (hg : Gap ps) (h : ρ[0]? = some (.fz (gdD ps cans week closed ks))) : eMeth 1 tb_size dCall (eVar 0) aNil ρ = some (.ok (.int (prodG week ps))) :=
  meth_ev (m := m_Garden_size) (ds := []) (by unfold eVar; rw [h]; rfl) rfl rfl rfl (call_ret (size_is hg))
end
theorem lc_ev {vs : List Nat} {t : Tg} {fi : Ro → EM (List D)} {p : Ro → EM Bool} {f : Ro → EM D} {ρ : Ro} {ds ys : List D} (h1 : fi ρ = some (.ok ds)) (h2 : lcD t p f (wipeE ρ vs) ds = some ys) (hl : ys.length ≤ 100000) : eLc vs t fi p f ρ = some (.ok (.lst ys)) := by
  unfold eLc
  rw [h1, bnd_ok, h2]
  dsimp only
  rw [if_pos (by have := sizeLine_eq; omega)]
  rfl
theorem lc_map {t : Tg} {p : Ro → EM Bool} {f : Ro → EM D} {ρ : Ro} {F : D → D} : ∀ {ds : List D}, (∀ d ∈ ds, ∃ ρ1, t d ρ = some ρ1 ∧ p ρ1 = some (.ok true) ∧ f ρ1 = some (.ok (F d))) → lcD t p f ρ ds = some (ds.map F)
  | [], _ => rfl
  | d :: ds, h => by
    obtain ⟨ρ1, h1, h2, h3⟩ := h d List.mem_cons_self
    have ih := lc_map (t := t) (p := p) (f := f) (ρ := ρ) (F := F) (ds := ds) fun d hd => h d (List.mem_cons_of_mem _ hd)
    unfold lcD
    rw [h1]; dsimp only; rw [h2]; dsimp only; rw [h3]; dsimp only; rw [ih]; rfl
theorem init_ok {names : List Str} {n : Nat} {body : Ro → Fs → Option IFl} {ds : List D} {ρ : Ro} {fs : Fs} {zs : List D} (h : body (startI n ds) [] = some (.nx ρ fs)) (hn : fs.map (·.1) = names) (hz : fs.map (·.2) = zs) : runI names n body ds = some (.ok zs) := by
  unfold runI
  rw [h]
  dsimp only
  rw [if_pos hn, hz]
  rfl
theorem sto_ev {f : Str} {fe : Ro → EM D} {g2 : Ro → Fs → Option IFl} {ρ : Ro} {fs : Fs} {d : D} {L : List Str} {r : Option IFl} (h : fe ρ = some (.ok d)) (ht : isT0 ρ[0]? = true) (hL : fs.map (·.1) = L) (hm : f ∉ L) (hl : L.length < 1000) (h2 : g2 ρ (fs ++ [(f, d)]) = r) : iSeq (iSto f fe) g2 ρ fs = r := by
  unfold iSeq iSto
  rw [h]
  dsimp only
  rw [if_pos ⟨ht, by rw [hL]; exact hm, by rw [← hL, List.length_map] at hl; exact hl⟩]
  exact h2
theorem post_ev {c : Cl} {g : Ro → Option Fl} {ρ ρ' : Ro} {fs : Fs} (ht : isT0 ρ[0]? = true) (hn : fs.map (·.1) = c.names) (h : g (ρ.set 0 (.fz (.obj c (fs.map (·.2))))) = some (.nx ρ')) : iPost c g ρ fs = some (.nx ρ' fs) := by
  unfold iPost
  rw [if_pos ⟨ht, hn⟩, h]
theorem names_ev {i ip : Nat} {fi : Ro → EM (List D)} {g2 : Ro → Fs → Option IFl} {ρ : Ro} {ds : List D} {ks : List (Str × Int)} {r : Option IFl} (h : tk0 ρ = true) (h1 : ip ≠ i) (h3 : isUn ρ[ip]? = true) (h4 : i < ρ.length) (h5 : fi (ρ.set i (.tk 1)) = some (.ok ds)) (h6 : ds.length < 100000) (h7 : namesGo ds [] = some (some ks)) (h8 : g2 (ρ.set i (.fz (.ord ks))) [] = r) : iNames i ip fi g2 ρ [] = r := by
  unfold iNames
  rw [if_pos ⟨h, rfl, h1, h3, h4⟩, h5]
  dsimp only
  rw [if_pos h6, h7]
  exact h8
theorem bls_true : ∀ (ps : List P), blsOf (ps.map fun _ => D.bl true) = some (ps.map fun _ => true)
  | [] => rfl
  | p :: ps => by rw [List.map_cons, List.map_cons]; unfold blsOf; rw [bls_true ps]; try rfl
section
variable {ps : List P} {cans week closed : Int} {ks : List (Str × Int)}
theorem garden_ok (h1 : 1 ≤ ps.length) (h2 : ps.length ≤ 8) (hc : 0 ≤ cans ∧ cans ≤ 8) (hw : 1 ≤ week ∧ week ≤ 14) (h0 : 0 ≤ closed) (hz : closed / 2 ^ week.toNat = 0) (hn : namesGo (ps.map P.d) [] = some (some ks)) (hg : Gap ps) (hs : prodG week ps ≤ 20000) :
    mi_Garden [.lst (ps.map P.d), .int cans, .int week, .int closed] = some (.ok [.lst (ps.map P.d), .int cans, .int week, .int closed, .ord ks]) := by
  let ρ : Ro := [.tk 0, .fz (.lst (ps.map P.d)), .fz (.int cans), .fz (.int week), .fz (.int closed), .un, .un]
  have hall : eCall dAll (aCons (eLc [6] (gN 6) (iOf (eVar 1)) bYes (e1 (dIs isPot) (eVarB 6))) aNil) ρ = some (.ok (.bl true)) := by
    refine call_ev (ds := [.lst (ps.map fun _ => .bl true)]) (a_cons (lc_ev (ds := ps.map P.d) rfl ?_ ?_) rfl) ?_
    · rw [lc_map (F := fun _ => .bl true)]
      · rw [List.map_map]; rfl
      · intro d hd
        obtain ⟨p, _, rfl⟩ := List.mem_map.mp hd
        refine ⟨_, rfl, rfl, ?_⟩
        show bnd (some (.ok p.d)) (dIs isPot) = _
        rw [bnd_ok]
        unfold dIs
        rw [p.tag]; rfl
    · rw [List.length_map]; omega
    · show (blsOf (ps.map fun _ => D.bl true)).map (fun ns => Except.ok (D.bl (ns.all id))) = _
      rw [bls_true]
      show some (Except.ok (D.bl ((ps.map fun _ => true).all id))) = _
      rw [show ((ps.map fun _ => true).all id) = true by simp]
  unfold mi_Garden
  refine init_ok (ρ := ρ.set 5 (.fz (.ord ks)) |>.set 0 (.fz (gdD ps cans week closed ks))) (fs := [("pots", .lst (ps.map P.d)), ("cans", .int cans), ("week", .int week), ("closed", .int closed), ("order", .ord ks)]) ?_ rfl rfl
  refine iS_nx (ρ' := ρ) (if_f (or_f (by rfl) (not_tt _ _ true (bT_ev hall))) rfl) ?_
  refine iS_nx (ρ' := ρ) (if_f (or_f (not_tt _ _ true (bT_ev ?_)) (or_f (not_tt _ _ true (bT_ev (call_ev (ds := [.int cans, .int 0, .int 8]) rfl (within_yes hc)))) (not_tt _ _ true (bT_ev (call_ev (ds := [.int week, .int 1, .int 14]) rfl (within_yes hw)))))) rfl) ?_
  · show bnd (some (Except.ok (D.int 1))) _ = _
    rw [bnd_ok]
    show bnd (dLen [.lst (ps.map P.d)]) _ = _
    rw [show dLen [.lst (ps.map P.d)] = some (.ok (.int (ps.map P.d).length)) from rfl, bnd_ok, List.length_map]
    show bnd (some (.ok (D.bl (decide ((1 : Int) ≤ ps.length))))) _ = _
    rw [bnd_ok, decide_eq_true (by omega)]
    show some (Except.ok (D.bl (decide ((ps.length : Int) ≤ 8)))) = _
    rw [decide_eq_true (by omega)]
  refine iS_nx (ρ' := ρ) (if_f (or_f (by rfl) (or_f (bT_ev (op_ev (d := .int closed) (e := .int 0) rfl rfl ?_)) (bT_ev (op_ev (d := .int 0) (e := .int 0) (op_ev (d := .int closed) (e := .int week) rfl rfl ?_) rfl rfl)))) rfl) ?_
  · show some (Except.ok (D.bl (decide (closed < 0)))) = _
    rw [decide_eq_false (by omega)]
  · show (if cNn closed week = true then ok (D.int (closed / 2 ^ week.toNat)) else none) = _
    rw [if_pos (show cNn closed week = true from decide_eq_true (by omega)), hz]; rfl
  refine names_ev rfl (by decide) rfl (show 5 < 7 by decide) (ds := ps.map P.d) rfl (by rw [List.length_map]; omega) hn ?_
  refine sto_ev (d := .lst (ps.map P.d)) (L := []) rfl rfl rfl (by decide) (by decide) ?_
  refine sto_ev (d := .int cans) (L := ["pots"]) rfl rfl rfl (by decide) (by decide) ?_
  refine sto_ev (d := .int week) (L := ["pots", "cans"]) rfl rfl rfl (by decide) (by decide) ?_
  refine sto_ev (d := .int closed) (L := ["pots", "cans", "week"]) rfl rfl rfl (by decide) (by decide) ?_
  refine sto_ev (d := .ord ks) (L := ["pots", "cans", "week", "closed"]) rfl rfl rfl (by decide) (by decide) ?_
  refine post_ev rfl rfl (if_f (bT_ev (op_ev (d := .int (prodG week ps)) (e := .int 20000) (size_ev hg rfl) rfl ?_)) rfl)
  show some (Except.ok (D.bl (decide ((20000 : Int) < prodG week ps)))) = _
  rw [decide_eq_false (by omega)]
end
/-! digits -/
def dgP : Int → List P → Int × List Int
  | n, [] => (n, [])
  | n, p :: Q => ((dgP (n / p.gap) Q).1, (dgP (n / p.gap) Q).2 ++ [n % p.gap])
theorem stGo_is : ∀ (Q : List P) (n : Int) (acc : List D), stGo n Q acc = ((dgP n Q).1, acc ++ (dgP n Q).2.reverse.map D.int)
  | [], n, acc => by show (n, acc) = (n, acc ++ []); rw [List.append_nil]
  | p :: Q, n, acc => by
    show stGo (n / p.gap) Q (acc ++ [.int (n % p.gap)]) = ((dgP (n / p.gap) Q).1, acc ++ ((dgP (n / p.gap) Q).2 ++ [n % p.gap]).reverse.map D.int)
    rw [stGo_is Q]
    simp
theorem dgP_len : ∀ (Q : List P) (n : Int), (dgP n Q).2.length = Q.length
  | [], n => rfl
  | p :: Q, n => by
    show ((dgP (n / p.gap) Q).2 ++ [n % p.gap]).length = _
    rw [List.length_append, dgP_len Q]; rfl
def prodQ (w : Int) : List P → Int
  | [] => w
  | p :: Q => prodQ w Q * p.gap
theorem prodG_append : ∀ (ps : List P) (w : Int) (p : P), prodG w (ps ++ [p]) = prodG w ps * p.gap
  | [], w, p => rfl
  | a :: ps, w, p => by
    show prodG (w * a.gap) (ps ++ [p]) = prodG (w * a.gap) ps * p.gap
    rw [prodG_append ps]
theorem prodG_rev : ∀ (Q : List P) (w : Int), prodG w Q.reverse = prodQ w Q
  | [], w => rfl
  | p :: Q, w => by
    rw [List.reverse_cons, prodG_append, prodG_rev Q]; rfl
theorem dgP_day : ∀ (Q : List P) (n w : Int), Gap Q → 0 ≤ n → n < prodQ w Q → 0 ≤ (dgP n Q).1 ∧ (dgP n Q).1 < w
  | [], n, w, _, h0, h1 => ⟨h0, h1⟩
  | p :: Q, n, w, hg, h0, h1 => by
    have hp := hg p List.mem_cons_self
    refine dgP_day Q (n / p.gap) w (fun q hq => hg q (List.mem_cons_of_mem _ hq)) (Int.ediv_nonneg h0 (by omega)) ?_
    exact Int.ediv_lt_of_lt_mul (by omega) h1
theorem numGo_append : ∀ (ps : List P) (ds : List D) (a : Int) (d : D) (p : P), ds.length = ps.length → numGo a (ds ++ [d]) (ps ++ [p]) = (numGo a ds ps).bind fun b => if okD d p.gap = true then some (b * p.gap + valD d) else none
  | [], [], a, d, p, _ => by
    show (if okD d p.gap = true then numGo (a * p.gap + valD d) [] [] else none) = _
    rfl
  | [], e :: ds, a, d, p, h => by cases h
  | q :: ps, [], a, d, p, h => by cases h
  | q :: ps, e :: ds, a, d, p, h => by
    show (if okD e q.gap = true then numGo (a * q.gap + valD e) (ds ++ [d]) (ps ++ [p]) else none) = (if okD e q.gap = true then numGo (a * q.gap + valD e) ds ps else none).bind _
    by_cases c : okD e q.gap = true
    · rw [if_pos c, if_pos c]
      exact numGo_append ps ds _ d p (by simpa using h)
    · rw [if_neg c, if_neg c]; rfl
theorem num_dg : ∀ (Q : List P) (n : Int), Gap Q → 0 ≤ n → numGo (dgP n Q).1 ((dgP n Q).2.map D.int) Q.reverse = some n
  | [], n, _, _ => rfl
  | p :: Q, n, hg, h0 => by
    have hp := hg p List.mem_cons_self
    have h1 : 0 ≤ n / p.gap := Int.ediv_nonneg h0 (by omega)
    have ih := num_dg Q (n / p.gap) (fun q hq => hg q (List.mem_cons_of_mem _ hq)) h1
    show numGo (dgP (n / p.gap) Q).1 (((dgP (n / p.gap) Q).2 ++ [n % p.gap]).map D.int) (p :: Q).reverse = some n
    rw [List.map_append, List.reverse_cons, List.map_cons, List.map_nil, numGo_append _ _ _ _ _ (by rw [List.length_map, dgP_len, List.length_reverse]), ih]
    have e1 := Int.emod_nonneg n (show p.gap ≠ 0 by omega)
    have e2 := Int.emod_lt_of_pos n (show 0 < p.gap by omega)
    have ok : okD (.int (n % p.gap)) p.gap = true := by
      show (decide (0 ≤ n % p.gap) && decide (n % p.gap ≤ p.gap - 1)) = true
      rw [decide_eq_true e1, decide_eq_true (by omega)]; rfl
    show (if okD (.int (n % p.gap)) p.gap = true then some (n / p.gap * p.gap + n % p.gap) else none) = some n
    rw [if_pos ok]
    congr 1
    have := Int.mul_ediv_add_emod n p.gap
    rw [Int.mul_comm]; exact this
theorem numGo_none : ∀ (ps : List P) (ds : List D) (k : Nat) (a : Int) (d : D) (p : P), ds[k]? = some d → ps[k]? = some p → okD d p.gap = false → numGo a ds ps = none
  | [], ds, k, a, d, p, _, h, _ => by cases h
  | q :: ps, [], k, a, d, p, h, _, _ => by cases h
  | q :: ps, e :: ds, 0, a, d, p, h1, h2, h3 => by
    cases h1; cases h2
    show (if okD e q.gap = true then _ else none) = none
    rw [h3]; rfl
  | q :: ps, e :: ds, k + 1, a, d, p, h1, h2, h3 => by
    show (if okD e q.gap = true then numGo (a * q.gap + valD e) ds ps else none) = none
    split
    · exact numGo_none ps ds k _ d p (by simpa using h1) (by simpa using h2) h3
    · rfl
/-! equal data -/
theorem pyI : ∀ (is : List Int), pyL (is.map D.int) = is.map PyData.int
  | [] => rfl
  | i :: is => by show py (.int i) :: pyL (is.map D.int) = _; rw [pyI is]; rfl
theorem layI : ∀ (is : List Int), PyData.canLayAll0 (is.map PyData.int) = true
  | [] => by simp [PyData.canLayAll0]
  | i :: is => by simp [PyData.canLayAll0, PyData.canLay0, layI is]
theorem depI : ∀ (is : List Int), PyData.depthAll (is.map PyData.int) = 0
  | [] => by simp [PyData.depthAll]
  | i :: is => by simp [PyData.depthAll, PyData.depth, depI is]
theorem eqvI : ∀ (is : List Int), PyData.eqvAll (is.map PyData.int) (is.map PyData.int) = true
  | [] => by simp [PyData.eqvAll]
  | i :: is => by simp [PyData.eqvAll, PyData.eqv, eqvI is]
theorem fit_l (is : List Int) : fit (.lst (is.map D.int)) = true := by
  show SeqAt.shaped (.list (pyL (is.map D.int))) = true
  rw [pyI]
  unfold SeqAt.shaped
  simp [PyData.canLay0, PyData.depth, layI, depI]
theorem eq_l (is : List Int) : dEq (.lst (is.map D.int)) (.lst (is.map D.int)) = some (.ok (.bl true)) := by
  show (if fit (.lst (is.map D.int)) = true ∧ fit (.lst (is.map D.int)) = true then ok (D.bl (PyData.eqv (.list (pyL (is.map D.int))) (.list (pyL (is.map D.int))))) else none) = _
  rw [if_pos ⟨fit_l is, fit_l is⟩, pyI]
  simp [PyData.eqv, eqvI, ok]
/-! pots, refusals -/
theorem pot_ok {nm : Str} {g : Int} (hn : m_is_name [.str nm] = some (.ret (.bl true))) (h : 1 ≤ g ∧ g ≤ 60) : mi_Pot [.str nm, .int g] = some (.ok [.str nm, .int g]) := by
  unfold mi_Pot
  refine init_ok (ρ := startI 3 [.str nm, .int g]) (fs := [("name", .str nm), ("gap", .int g)]) ?_ rfl rfl
  refine iS_nx (ρ' := startI 3 [.str nm, .int g]) (if_f (or_f (not_tt _ _ true (bT_ev (call_ev (ds := [.str nm]) rfl ((def_all rfl).trans (call_ret hn))))) (not_tt _ _ true (bT_ev (call_ev (ds := [.int g, .int 1, .int 60]) rfl (within_yes h))))) rfl) ?_
  refine sto_ev (d := .str nm) (L := []) rfl rfl rfl (by decide) (by decide) ?_
  exact sto_ev (d := .int g) (L := ["name"]) rfl rfl rfl (by decide) (by decide) rfl
theorem cac_ok {nm : Str} {g r : Int} (hn : m_is_name [.str nm] = some (.ret (.bl true))) (h : 1 ≤ g ∧ g ≤ 60) (hr : 0 ≤ r ∧ r ≤ g - 1) : mi_Cactus [.str nm, .int g, .int r] = some (.ok [.str nm, .int g, .int r]) := by
  unfold mi_Cactus
  refine init_ok (ρ := startI 4 [.str nm, .int g, .int r]) (fs := [("name", .str nm), ("gap", .int g), ("rest", .int r)]) ?_ rfl rfl
  have e : iCal (Cl.names .pot) 2 mi_Pot (aCons (eVar 1) (aCons (eVar 2) aNil)) (startI 4 [.str nm, .int g, .int r]) [] = some (.nx (startI 4 [.str nm, .int g, .int r]) [("name", .str nm), ("gap", .int g)]) := by
    show (match mi_Pot [.str nm, .int g] with | some (.ok zs) => if zs.length = 2 then some (IFl.nx _ _) else none | some (.error e) => some (IFl.ex e) | none => none) = _
    rw [pot_ok hn h]; rfl
  show iSeq _ _ (startI 4 [.str nm, .int g, .int r]) [] = _
  unfold iSeq
  rw [e]
  dsimp only
  refine iS_nx (ρ' := startI 4 [.str nm, .int g, .int r]) (if_f (not_tt _ _ true (bT_ev (call_ev (ds := [.int r, .int 0, .int (g - 1)]) rfl (within_yes hr)))) rfl) ?_
  exact sto_ev (f := "rest") (ρ := startI 4 [.str nm, .int g, .int r]) (g2 := iNil) (fe := eVar 3) (fs := [("name", .str nm), ("gap", .int g)]) (d := .int r) (L := ["name", "gap"]) rfl rfl rfl (by decide) (by decide) rfl
theorem mulW {i j : Int} (h : -(2 ^ 64) < j ∧ j < 2 ^ 64) : dMulU (.int i) (.int j) = some (.ok (.int (i * j))) := by
  show (if cMul i j = true then ok (D.int (i * j)) else none) = _
  rw [if_pos]
  · rfl
  · unfold cMul
    rw [Bool.or_eq_true]
    refine Or.inr ?_
    rw [Bool.and_eq_true]
    exact ⟨decide_eq_true h.1, decide_eq_true h.2⟩
theorem mod_ev {i j : Int} (h : 0 < j) : dMod (.int i) (.int j) = some (.ok (.int (i % j))) := by
  show (if cPos i j = true then ok (D.int (i % j)) else none) = _
  rw [if_pos (show cPos i j = true from decide_eq_true h)]; rfl
theorem div_ev {i j : Int} (h : 0 < j ∧ j < 1073741824) : dDiv (.int i) (.int j) = some (.ok (.int (i / j))) := by
  show (if cDiv i j = true then ok (D.int (i / j)) else none) = _
  rw [if_pos (show cDiv i j = true by unfold cDiv; rw [decide_eq_true h.1, decide_eq_true h.2]; rfl)]; rfl
theorem draw_is (c k m : Int) (hm : 0 < m) : ∃ v, 0 ≤ v ∧ v < m ∧ dDef 3 [] (dCall m_law_draw) [.int c, .int k, .int m] = some (.ok (.int v)) := by
  have h8 : k % 8 = 0 ∨ k % 8 = 1 ∨ k % 8 = 2 ∨ k % 8 = 3 ∨ k % 8 = 4 ∨ k % 8 = 5 ∨ k % 8 = 6 ∨ k % 8 = 7 := by omega
  obtain ⟨pr, hpr, hix⟩ : ∃ pr, 0 < pr ∧ dIx (.tup [.int 1000003, .int 1000033, .int 1000037, .int 1000039, .int 1000081, .int 1000099, .int 1000117, .int 1000121]) (.int (k % 8)) = some (.ok (.int pr)) := by
    rcases h8 with h | h | h | h | h | h | h | h <;> rw [h] <;> exact ⟨_, by decide, rfl⟩
  let bl := c * 48271 + k * 69621 + c / 1000003 % 1000003 * 40692
  refine ⟨bl % pr % m, Int.emod_nonneg _ (by omega), Int.emod_lt_of_pos _ hm, (def_all rfl).trans (call_ret (run_ret ((seq_nx (ρ' := [.fz (.int c), .fz (.int k), .fz (.int m), .fz (.tup [.int 1000003, .int 1000033, .int 1000037, .int 1000039, .int 1000081, .int 1000099, .int 1000117, .int 1000121]), .un]) (by kernel_rfl)).trans ((seq_nx (ρ' := [.fz (.int c), .fz (.int k), .fz (.int m), .fz (.tup [.int 1000003, .int 1000033, .int 1000037, .int 1000039, .int 1000081, .int 1000099, .int 1000117, .int 1000121]), .fz (.int bl)]) ?_).trans (ret_ev (op_ev (d := .int (bl % pr)) (e := .int m) (op_ev (d := .int bl) (e := .int pr) rfl (op_ev (e := .int (k % 8)) rfl (op_ev (d := .int k) (e := .int 8) rfl rfl (mod_ev (by decide))) hix) (mod_ev hpr)) rfl (mod_ev hm)))))))⟩
  refine set_ev (i := 4) (op_ev (d := .int (c * 48271 + k * 69621)) (e := .int (c / 1000003 % 1000003 * 40692)) (op_ev (d := .int (c * 48271)) (e := .int (k * 69621)) (op_ev (d := .int c) (e := .int 48271) rfl rfl (mulW (by decide))) (op_ev (d := .int k) (e := .int 69621) rfl rfl (mulW (by decide))) rfl) (op_ev (d := .int (c / 1000003 % 1000003)) (e := .int 40692) (op_ev (d := .int (c / 1000003)) (e := .int 1000003) (op_ev (d := .int c) (e := .int 1000003) rfl rfl (div_ev (by decide))) rfl (mod_ev (by decide))) rfl (mulW (by decide))) rfl)
theorem rg_ev {h : List D → EM (List D)} {fs : Ro → EM (List D)} {ρ : Ro} {ds : List D} {r : EM (List D)} (h1 : fs ρ = some (.ok ds)) (h2 : h ds = r) : iRg h fs ρ = r := by unfold iRg; rw [h1]; exact h2
theorem tup_ev {fs : Ro → EM (List D)} {ρ : Ro} {ds : List D} {n : Nat} (h : fs ρ = some (.ok ds)) (hl : ds.length ≤ n) (hn : n ≤ 1000 := by decide) : eTup fs ρ = some (.ok (.tup ds)) := by
  unfold eTup
  rw [h, bnd_ok, if_pos (by have := sizeLine_eq; omega)]
  rfl
theorem lst_ev {fs : Ro → EM (List D)} {ρ : Ro} {ds : List D} {n : Nat} (h : fs ρ = some (.ok ds)) (hl : ds.length ≤ n) (hn : n ≤ 1000 := by decide) : eLst fs ρ = some (.ok (.lst ds)) := by
  unfold eLst
  rw [h, bnd_ok, if_pos (by have := sizeLine_eq; omega)]
  rfl
theorem iof_ev {f : Ro → EM D} {ρ : Ro} {xs : List D} (h : f ρ = some (.ok (.lst xs))) : iOf f ρ = some (.ok xs) := by unfold iOf; rw [h]; rfl
theorem nbref {f : Ro → EM D} {ρ : Ro} (h : f ρ = some (.ok (.bl true))) : bNot (bT f) ρ = some (.ok false) := not_tt _ _ true (bT_ev h)
end K09
namespace K09
open PySem PySem.Spec PyProof.Rows L2 Tw
/-! ### bits -/
abbrev Dn (k : Nat) : D := .int (k : Int)
theorem and_one (c : Nat) : dAnd (.int c) (.int 1) = some (.ok (.int ((c % 2 : Nat) : Int))) := by
  show some (Except.ok (D.int (Builtin.bitAnd (c : Int) 1))) = _
  have h := PyProof.Rows.bitAnd_pp (x := (c : Int)) (y := 1) (by omega) (by decide)
  rw [h]
  have : (c : Int).toNat &&& (1 : Int).toNat = c % 2 := by
    rw [Int.toNat_natCast]
    exact Nat.and_one_is_mod c
  rw [this]
theorem shr_nat (c k : Nat) : dShr (.int c) (.int k) = some (.ok (.int ((c / 2 ^ k : Nat) : Int))) := by
  show (if cNn (c : Int) (k : Int) = true then ok (D.int ((c : Int) / 2 ^ ((k : Int).toNat))) else none) = _
  rw [if_pos (show cNn (c : Int) (k : Int) = true from decide_eq_true (by omega)), Int.toNat_natCast]
  norm_cast
theorem eq_i (i j : Int) : dEq (.int i) (.int j) = some (.ok (.bl (decide (i = j)))) := rfl
theorem bit_ev {f g : Ro → EM D} {ρ : Ro} {c k : Nat} (hf : f ρ = some (.ok (Dn c))) (hg : g ρ = some (.ok (Dn k))) : bT (eOp dEq (eOp dAnd (eOp dShr f g) (eC (.int 1))) (eC (.int 1))) ρ = some (.ok (c.testBit k)) := by
  refine bT_ev (op_ev (d := .int ((c / 2 ^ k % 2 : Nat) : Int)) (e := .int 1) (op_ev (d := .int ((c / 2 ^ k : Nat) : Int)) (e := .int 1) (op_ev hf hg (shr_nat c k)) rfl (and_one _)) rfl ?_)
  rw [eq_i, Nat.testBit_eq_decide_div_mod_eq, show decide (((c / 2 ^ k % 2 : Nat) : Int) = 1) = decide (c / 2 ^ k % 2 = 1) from decide_eq_decide.mpr (by omega)]
theorem app_ev {i : Nat} {f : Ro → EM D} {ρ : Ro} {ds : List D} {d : D} (h0 : ρ[i]? = some (.ow ds)) (h : f ρ = some (.ok d)) (hl : ds.length < 1000000) : gdO i (sApp i f) ρ = some (.nx (ρ.set i (.ow (ds ++ [d])))) := by
  unfold gdO isOw
  rw [h0]
  dsimp only
  rw [if_pos rfl]
  unfold sApp
  rw [h, toS_ok, h0]
  dsimp only
  rw [if_pos (by have := sizeLine_eq; omega)]
/-- the places of the bits -/
def bitsF : Nat → Nat → Nat → List Nat
  | 0, _, _ => []
  | n + 1, c, p => (if c % 2 = 1 then [p] else []) ++ bitsF n (c / 2) (p + 1)
theorem bitsF_zero : ∀ (n p : Nat), bitsF n 0 p = []
  | 0, _ => rfl
  | n + 1, p => by
    show (if 0 % 2 = 1 then [p] else []) ++ bitsF n (0 / 2) (p + 1) = []
    rw [if_neg (by decide), Nat.zero_div, bitsF_zero n]; rfl
theorem bitsF_len : ∀ (n c p : Nat), (bitsF n c p).length ≤ n
  | 0, _, _ => Nat.le_refl _
  | n + 1, c, p => by
    show ((if c % 2 = 1 then [p] else []) ++ bitsF n (c / 2) (p + 1)).length ≤ n + 1
    have := bitsF_len n (c / 2) (p + 1)
    rw [List.length_append]
    split <;> simp <;> omega
theorem bitsF_nil : ∀ (n c p : Nat), c < 2 ^ n → bitsF n c p = [] → c = 0
  | 0, c, p, h, _ => by simpa using h
  | n + 1, c, p, h, e => by
    have e' : (if c % 2 = 1 then [p] else []) ++ bitsF n (c / 2) (p + 1) = [] := e
    obtain ⟨e1, e2⟩ := List.append_eq_nil_iff.mp e'
    have h2 := bitsF_nil n (c / 2) (p + 1) (by rw [Nat.pow_succ] at h; omega) e2
    by_cases z : c % 2 = 1
    · rw [if_pos z] at e1; cases e1
    · omega
theorem bitsF_test (c : Nat) : ∀ (m s : Nat), bitsF m (c / 2 ^ s) s = (List.range' s m).filter (c.testBit ·)
  | 0, s => rfl
  | m + 1, s => by
    show (if c / 2 ^ s % 2 = 1 then [s] else []) ++ bitsF m (c / 2 ^ s / 2) (s + 1) = _
    rw [Nat.div_div_eq_div_mul, ← Nat.pow_succ, bitsF_test c m (s + 1), List.range'_succ, List.filter_cons, Nat.testBit_eq_decide_div_mod_eq]
    by_cases z : c / 2 ^ s % 2 = 1
    · rw [if_pos z, if_pos (decide_eq_true z)]; rfl
    · rw [if_neg z, if_neg (by rw [decide_eq_false z]; decide)]; rfl
/-- the places of a choice -/
def wet (n c : Nat) : List Nat := (List.range' 0 n).filter (c.testBit ·)
theorem wet_bits (n c : Nat) : bitsF n c 0 = wet n c := by
  have := bitsF_test c n 0
  rwa [Nat.pow_zero, Nat.div_one] at this
theorem wet_len (n c : Nat) : (wet n c).length ≤ n := by rw [← wet_bits]; exact bitsF_len n c 0
theorem wet_nil {n c : Nat} (h : c < 2 ^ n) : wet n c = [] ↔ c = 0 := by
  constructor
  · intro e; exact bitsF_nil n c 0 h (by rw [wet_bits]; exact e)
  · rintro rfl; rw [← wet_bits, bitsF_zero]
theorem wet_mem {n c k : Nat} : k ∈ wet n c ↔ k < n ∧ c.testBit k = true := by
  unfold wet
  rw [List.mem_filter, List.mem_range'_1]
  simp
abbrev bBits : Ro → Option Fl := sSeq (sIf (bT (eOp dEq (eOp dAnd (eVarB 0) (eC (.int 1))) (eC (.int 1))))
        (gdO 1 (sApp 1 (eVar 2)))
        sNil)
      (sSeq (sSet 0 (eOp dShr (eVarB 0) (eC (.int 1))))
      (sAug 2 (dI (fun _ _ => true) fun i j => i + j) (eC (.int 1))))
theorem bits_go : ∀ (n c p : Nat) (acc : List D), c < 2 ^ n → acc.length + n ≤ 1000 → ∃ p' : Nat, whileN (bT (eOp dGt (eVarB 0) (eC (.int 0)))) bBits (n + 1) [.fz (Dn c), .ow acc, .fz (Dn p)] = some (.nx [.fz (Dn 0), .ow (acc ++ (bitsF n c p).map Dn), .fz (Dn p')])
  | n, 0, p, acc, _, _ => ⟨p, by rw [bitsF_zero, List.map_nil, List.append_nil]; rfl⟩
  | 0, c + 1, p, acc, h, _ => by rw [Nat.pow_zero] at h; omega
  | n + 1, c + 1, p, acc, h, hl => by
    have hb : ∃ acc', acc' = acc ++ (if (c + 1) % 2 = 1 then [p] else []).map Dn ∧ acc'.length + n ≤ 1000 ∧ bBits [.fz (Dn (c + 1)), .ow acc, .fz (Dn p)] = some (.nx [.fz (Dn ((c + 1) / 2)), .ow acc', .fz (Dn (p + 1))]) := by
      have tail : ∀ acc', sSeq (sSet 0 (eOp dShr (eVarB 0) (eC (.int 1)))) (sAug 2 (dI (fun _ _ => true) fun i j => i + j) (eC (.int 1))) [.fz (Dn (c + 1)), .ow acc', .fz (Dn p)] = some (.nx [.fz (Dn ((c + 1) / 2)), .ow acc', .fz (Dn (p + 1))]) := fun acc' => by
        refine (seq_nx (ρ' := [.fz (Dn ((c + 1) / 2)), .ow acc', .fz (Dn p)]) (set_ev (i := 0) (op_ev (d := Dn (c + 1)) (e := .int 1) rfl rfl ?_))).trans rfl
        have := shr_nat (c + 1) 1
        rw [Nat.pow_one] at this
        exact this
      have hc : bT (eOp dEq (eOp dAnd (eVarB 0) (eC (.int 1))) (eC (.int 1))) [.fz (Dn (c + 1)), .ow acc, .fz (Dn p)] = some (.ok (decide ((c + 1) % 2 = 1))) := by
        refine bT_ev (op_ev (d := .int (((c + 1) % 2 : Nat) : Int)) (e := .int 1) (op_ev (d := Dn (c + 1)) (e := .int 1) rfl rfl (and_one _)) rfl ?_)
        rw [eq_i, show decide ((((c + 1) % 2 : Nat) : Int) = 1) = decide ((c + 1) % 2 = 1) from decide_eq_decide.mpr (by omega)]
      by_cases z : (c + 1) % 2 = 1
      · rw [decide_eq_true z] at hc
        refine ⟨_, rfl, ?_, ?_⟩
        · rw [if_pos z]; simp; omega
        · rw [if_pos z]
          exact (seq_nx (if_t hc (app_ev (i := 1) (ds := acc) (d := Dn p) rfl rfl (by omega)))).trans (tail _)
      · rw [decide_eq_false z] at hc
        refine ⟨_, rfl, ?_, ?_⟩
        · rw [if_neg z]; simp; omega
        · rw [if_neg z, List.map_nil, List.append_nil]
          exact (seq_nx (if_f hc rfl)).trans (tail _)
    obtain ⟨acc', e, hl', hb⟩ := hb
    obtain ⟨p', ih⟩ := bits_go n ((c + 1) / 2) (p + 1) acc' (by rw [Nat.pow_succ] at h; omega) hl'
    refine ⟨p', ?_⟩
    have e2 : acc ++ (bitsF (n + 1) (c + 1) p).map Dn = acc' ++ (bitsF n ((c + 1) / 2) (p + 1)).map Dn := by
      rw [e, List.append_assoc, ← List.map_append]; rfl
    rw [e2, ← ih]
    have hgt : bT (eOp dGt (eVarB 0) (eC (.int 0))) [.fz (Dn (c + 1)), .ow acc, .fz (Dn p)] = some (.ok true) := by
      refine bT_ev (op_ev (d := Dn (c + 1)) (e := .int 0) rfl rfl ?_)
      show some (Except.ok (D.bl (decide ((0 : Int) < ((c + 1 : Nat) : Int))))) = _
      rw [decide_eq_true (by omega)]
    show toS _ (bT (eOp dGt (eVarB 0) (eC (.int 0))) _) _ = _
    rw [hgt, toS_ok, if_pos rfl, hb]
theorem bits_is {n c : Nat} (h : c < 2 ^ n) (hn : n ≤ 900) : m_bits_of [Dn c] = some (.reto ((wet n c).map Dn)) := by
  obtain ⟨p', hw⟩ := bits_go n c 0 [] h (by simp; omega)
  rw [wet_bits, List.nil_append] at hw
  have : (sSeq (sSetO 1 (eLst aNil)) (sSeq (sSet 2 (eC (.int 0))) (sSeq (sWhile (bT (eOp dGt (eVarB 0) (eC (.int 0)))) bBits) (sRetV 1)))) (startE 3 [Dn c]) = some (.rto ((wet n c).map Dn)) :=
    (seq_nx (ρ' := [.fz (Dn c), .ow [], .un]) rfl).trans ((seq_nx (ρ' := [.fz (Dn c), .ow [], .fz (Dn 0)]) rfl).trans ((seq_nx (sWhile_is hw)).trans rfl))
  exact (congrArg outOf this).trans rfl
end K09
namespace K09
open PySem PySem.Spec PyProof.Rows L2 Tw
theorem lc_filter {t : Tg} {p : Ro → EM Bool} {f : Ro → EM D} {ρ : Ro} {b : D → Bool} {F : D → D} : ∀ {ds : List D}, (∀ d ∈ ds, ∃ ρ1, t d ρ = some ρ1 ∧ p ρ1 = some (.ok (b d)) ∧ f ρ1 = some (.ok (F d))) → lcD t p f ρ ds = some ((ds.filter b).map F)
  | [], _ => rfl
  | d :: ds, h => by
    obtain ⟨ρ1, h1, h2, h3⟩ := h d List.mem_cons_self
    have ih := lc_filter (t := t) (p := p) (f := f) (ρ := ρ) (b := b) (F := F) (ds := ds) fun d hd => h d (List.mem_cons_of_mem _ hd)
    unfold lcD
    rw [h1]; dsimp only; rw [h2]
    cases hb : b d with
    | true => dsimp only; rw [h3]; dsimp only; rw [ih, List.filter_cons, if_pos hb]; rfl
    | false => dsimp only; rw [ih, List.filter_cons, if_neg (by rw [hb]; decide)]
end K09
namespace K09
open PySem PySem.Spec PyProof.Rows L2 Tw
/-! ### what may be done, what comes of it -/
def mayP (p : P) (i : Int) : Bool := match p.rest with
  | none => true
  | some r => decide (r ≤ i)
/-- may the pot at a place be watered -/
def mayK (ps : List P) (is : List Int) (k : Nat) : Bool := match ps[k]?, is[k]? with
  | some p, some i => mayP p i
  | _, _ => false
section
variable {ps : List P} {cans week : Int} {cl dy : Nat} {ks : List (Str × Int)} {is : List Int}
abbrev stD (day : D) (is : List Int) : D := .tup [day, .tup (is.map D.int)]
abbrev roA (g : D) (dy : Nat) (is : List Int) (c : Nat) (e5 e6 : Ent) : Ro := [.fz g, .fz (stD (Dn dy) is), .fz (Dn c), .fz (Dn dy), .fz (.tup (is.map D.int)), e5, e6]
theorem not_ev {f : Ro → EM D} {ρ : Ro} {b : Bool} (h : f ρ = some (.ok (.bl b))) : bNot (bT f) ρ = some (.ok (!b)) := not_tt _ _ b (bT_ev h)
/-- whether the day is closed or the cans are too few -/
def hind (cl dy : Nat) (cans : Int) (m : Nat) : Bool := cl.testBit dy || decide (cans < (m : Int))
def alF (ps : List P) (is : List Int) (cl dy : Nat) (cans : Int) (n c : Nat) : Bool := if hind cl dy cans (wet n c).length = true then decide (c = 0) else (wet n c).all (mayK ps is)
/-- the days since, behind a choice -/
def bhF (c : Nat) : Nat → List Int → List P → Option (List Int)
  | s, i :: is, p :: ps => if c.testBit s = true then (bhF c (s + 1) is ps).map (0 :: ·) else if i + 1 = p.gap then none else (bhF c (s + 1) is ps).map ((i + 1) :: ·)
  | _, _, _ => some []
abbrev bBh : Ro → Option Fl := sIf (bT (eOp dEq (eOp dAnd (eOp dShr (eVarB 2) (eVarB 6)) (eC (.int 1))) (eC (.int 1))))
        (gdO 5 (sApp 5 (eC (.int 0))))
        (sIf (bT (eOp dEq (eOp dAddU (eOp dIx (eVarB 4) (eVarB 6)) (eC (.int 1))) (e1 (dFld "gap") (eOp dIx (e1 (dFld "pots") (eVarB 0)) (eVarB 6)))))
          (sRet (eC .non))
          (gdO 5 (sApp 5 (eOp dAddU (eOp dIx (eVarB 4) (eVarB 6)) (eC (.int 1))))))
theorem bh_go {c : Nat} : ∀ (ps1 : List P) (is1 : List Int) (s : Nat) (acc : List Int) (e6 : Ent), ps.drop s = ps1 → is.drop s = is1 → is1.length = ps1.length → acc.length + ps1.length ≤ 1000 →
    (∃ r e6', bhF c s is1 ps1 = some r ∧ forD (gN 6) bBh ((List.range' s ps1.length).map Dn) (roA (gdD ps cans week cl ks) dy is c (.ow (acc.map D.int)) e6) = some (.nx (roA (gdD ps cans week cl ks) dy is c (.ow ((acc ++ r).map D.int)) e6'))) ∨
    (bhF c s is1 ps1 = none ∧ forD (gN 6) bBh ((List.range' s ps1.length).map Dn) (roA (gdD ps cans week cl ks) dy is c (.ow (acc.map D.int)) e6) = some (.rt .non))
  | [], is1, s, acc, e6, h1, h2, hl, _ => by
    have : is1 = [] := by cases is1 with | nil => rfl | cons _ _ => cases hl
    subst this
    exact .inl ⟨[], e6, rfl, by rw [List.append_nil]; rfl⟩
  | p :: ps1, [], s, acc, e6, h1, h2, hl, _ => by cases hl
  | p :: ps1, i :: is1, s, acc, e6, h1, h2, hl, hz => by
    obtain ⟨g1, g2⟩ := drop_get h1
    obtain ⟨d1, d2⟩ := drop_get h2
    have ePd : (ps.map P.d)[s]? = some p.d := by rw [List.getElem?_map, g1]; rfl
    have eId : (is.map D.int)[s]? = some (.int i) := by rw [List.getElem?_map, d1]; rfl
    simp only [List.length_cons] at hl hz
    let ρ1 := roA (gdD ps cans week cl ks) dy is c (.ow (acc.map D.int)) (.fz (Dn s))
    have eI : eOp dAddU (eOp dIx (eVarB 4) (eVarB 6)) (eC (.int 1)) ρ1 = some (.ok (.int (i + 1))) := op_ev (d := .int i) (e := .int 1) (op_ev (d := .tup (is.map D.int)) (e := Dn s) rfl rfl (ix_tup eId)) rfl rfl
    have eG : e1 (dFld "gap") (eOp dIx (e1 (dFld "pots") (eVarB 0)) (eVarB 6)) ρ1 = some (.ok (.int p.gap)) := e1_ev (d := p.d) (op_ev (d := .lst (ps.map P.d)) (e := Dn s) rfl rfl (ix_lst ePd)) p.gap_is
    have hb : bT (eOp dEq (eOp dAnd (eOp dShr (eVarB 2) (eVarB 6)) (eC (.int 1))) (eC (.int 1))) ρ1 = some (.ok (c.testBit s)) := bit_ev rfl rfl
    rw [List.length_cons, List.range'_succ, List.map_cons]
    have step : ∀ (v : Int), bBh ρ1 = some (.nx (roA (gdD ps cans week cl ks) dy is c (.ow ((acc ++ [v]).map D.int)) (.fz (Dn s)))) → bhF c s (i :: is1) (p :: ps1) = (bhF c (s + 1) is1 ps1).map (v :: ·) →
        (∃ r e6', bhF c s (i :: is1) (p :: ps1) = some r ∧ forD (gN 6) bBh (Dn s :: (List.range' (s + 1) ps1.length).map Dn) (roA (gdD ps cans week cl ks) dy is c (.ow (acc.map D.int)) e6) = some (.nx (roA (gdD ps cans week cl ks) dy is c (.ow ((acc ++ r).map D.int)) e6'))) ∨
        (bhF c s (i :: is1) (p :: ps1) = none ∧ forD (gN 6) bBh (Dn s :: (List.range' (s + 1) ps1.length).map Dn) (roA (gdD ps cans week cl ks) dy is c (.ow (acc.map D.int)) e6) = some (.rt .non)) := by
      intro v hs hf
      rcases bh_go ps1 is1 (s + 1) (acc ++ [v]) (.fz (Dn s)) g2 d2 (by omega) (by simp; omega) with ⟨r, e6', a, f⟩ | ⟨a, f⟩
      · refine .inl ⟨v :: r, e6', by rw [hf, a]; rfl, (for_cons (ρ1 := ρ1) rfl hs).trans (f.trans ?_)⟩
        rw [List.append_assoc]; rfl
      · exact .inr ⟨by rw [hf, a]; rfl, (for_cons (ρ1 := ρ1) rfl hs).trans f⟩
    cases hbit : c.testBit s with
    | true =>
      rw [hbit] at hb
      refine step 0 ?_ ?_
      · rw [List.map_append]
        exact if_t hb (app_ev (i := 5) (ds := acc.map D.int) (d := .int 0) rfl rfl (by rw [List.length_map]; omega))
      · show (if c.testBit s = true then _ else _) = _
        rw [if_pos hbit]
    | false =>
      rw [hbit] at hb
      have hq : bT (eOp dEq (eOp dAddU (eOp dIx (eVarB 4) (eVarB 6)) (eC (.int 1))) (e1 (dFld "gap") (eOp dIx (e1 (dFld "pots") (eVarB 0)) (eVarB 6)))) ρ1 = some (.ok (decide (i + 1 = p.gap))) := bT_ev (op_ev eI eG rfl)
      by_cases hd : i + 1 = p.gap
      · rw [decide_eq_true hd] at hq
        refine .inr ⟨?_, for_rt (ρ1 := ρ1) rfl (if_f hb (if_t hq rfl))⟩
        show (if c.testBit s = true then _ else _) = _
        rw [if_neg (by rw [hbit]; decide), if_pos hd]
      · rw [decide_eq_false hd] at hq
        refine step (i + 1) ?_ ?_
        · rw [List.map_append]
          exact if_f hb (if_f hq (app_ev (i := 5) (ds := acc.map D.int) (d := .int (i + 1)) rfl eI (by rw [List.length_map]; omega)))
        · show (if c.testBit s = true then _ else _) = _
          rw [if_neg (by rw [hbit]; decide), if_neg hd]
/-- the state behind -/
def nextD (week : Int) (dy : Nat) (r : List Int) : D := stD (.int (((dy : Int) + 1) % week)) r
def bhD (week : Int) (dy : Nat) (is : List Int) (ps : List P) (c : Nat) : D := match bhF c 0 is ps with
  | none => .non
  | some r => nextD week dy r
end
end K09
namespace K09
open PySem PySem.Spec PyProof.Rows L2 Tw
/-! ### choices -/
/-- digits below the gaps -/
def okI : List Int → List P → Prop
  | [], [] => True
  | i :: is, p :: ps => (0 ≤ i ∧ i < p.gap) ∧ okI is ps
  | _, _ => False
theorem okI_len : ∀ {is : List Int} {ps : List P}, okI is ps → is.length = ps.length
  | [], [], _ => rfl
  | i :: is, p :: ps, h => by rw [List.length_cons, List.length_cons, okI_len h.2]
theorem okI_num : ∀ {is : List Int} {ps : List P} (a : Int), okI is ps → ∃ r, numGo a (is.map D.int) ps = some r
  | [], [], a, _ => ⟨a, rfl⟩
  | i :: is, p :: ps, a, h => by
    obtain ⟨r, hr⟩ := okI_num (a * p.gap + i) h.2
    refine ⟨r, ?_⟩
    have ok : okD (.int i) p.gap = true := by
      show (decide (0 ≤ i) && decide (i ≤ p.gap - 1)) = true
      rw [decide_eq_true h.1.1, decide_eq_true (by have := h.1.2; omega)]; rfl
    show (if okD (.int i) p.gap = true then numGo (a * p.gap + i) (is.map D.int) ps else none) = _
    rw [if_pos ok, hr]
theorem noObj_ints (is : List Int) : ∀ d ∈ is.map D.int, noObj d = true := fun d hd => by
  obtain ⟨i, _, rfl⟩ := List.mem_map.mp hd
  rfl
section
variable {ps : List P} {cans week : Int} {cl dy : Nat} {ks : List (Str × Int)} {is : List Int}
/-- a choice and what lies behind it, if it leaves none dry -/
def stepF (ps : List P) (is : List Int) (cl dy : Nat) (cans week : Int) (c : Nat) : Option D := if alF ps is cl dy cans ps.length c = true then (bhF c 0 is ps).map fun r => .tup [Dn c, nextD week dy r] else none
abbrev roC (g st : D) (acc : List D) (e3 e4 : Ent) : Ro := [.fz g, .fz st, .ow acc, e3, e4]
def stepsF (ps : List P) (is : List Int) (cl dy : Nat) (cans week : Int) : List D := (List.range' 0 (2 ^ ps.length)).filterMap (stepF ps is cl dy cans week)
theorem shl_one (n : Nat) (h : n ≤ 1000) : dShl (.int 1) (.int n) = some (.ok (Dn (2 ^ n))) := by
  show (if cPow 1 (n : Int) = true then ok (D.int (1 * 2 ^ ((n : Int).toNat))) else none) = _
  rw [if_pos (by unfold cPow; rw [decide_eq_true (by omega), decide_eq_true (by omega), decide_eq_true (by decide)]; rfl), Int.toNat_natCast, Int.one_mul]
  show some (Except.ok (D.int ((2 : Int) ^ n))) = some (Except.ok (D.int ((2 ^ n : Nat) : Int)))
  rw [Int.natCast_pow]; rfl
theorem drop_ev {f : Ro → EM D} {ρ : Ro} {d : D} (h : f ρ = some (.ok d)) : sDrop f ρ = some (.nx ρ) := by unfold sDrop; rw [h]; rfl
theorem drop_er {f : Ro → EM D} {ρ : Ro} {e : Xn} (h : f ρ = some (.error e)) : sDrop f ρ = some (.ex e ρ) := by unfold sDrop; rw [h]; rfl
end
end K09
namespace K09
open PySem PySem.Spec PyProof.Rows L2 Tw
/-! ### the law's own steps -/
/-- a pot told plainly -/
structure S where
  nm : Str
  gap : Int
  rest : Int
def S.d (s : S) : D := .tup [.str s.nm, .int s.gap, .int s.rest]
def S.p (s : S) : P := ⟨s.nm, s.gap, if s.rest < 0 then none else some s.rest⟩
abbrev spD3 (ss : List S) (cans week : Int) (cl : Nat) : D := .tup [.lst (ss.map S.d), .int cans, .int week, .int cl]
theorem canLayL_ints : ∀ is : List Int, PyData.canLayAll0 (pyL (is.map D.int)) = true := fun is => by rw [pyI]; exact layI is
theorem fit_int (i : Int) : fit (.int i) = true := by
  show SeqAt.shaped (.int i) = true
  unfold SeqAt.shaped
  simp [PyData.canLay0, PyData.depth]
theorem fit_nil : fit (.lst []) = true := fit_l []
theorem map_Dn (ws : List Nat) : ws.map Dn = (ws.map fun (k : Nat) => (k : Int)).map D.int := by rw [List.map_map]; rfl
theorem ne_nil (ws : List Nat) : dNe (.lst (ws.map Dn)) (.lst []) = some (.ok (.bl (!decide (ws = [])))) := by
  rw [map_Dn]
  show (if fit (.lst ((ws.map fun (k : Nat) => (k : Int)).map D.int)) = true ∧ fit (.lst []) = true then ok (D.bl (!PyData.eqv (.list (pyL ((ws.map fun (k : Nat) => (k : Int)).map D.int))) (.list (pyL [])))) else none) = _
  rw [if_pos ⟨fit_l _, fit_nil⟩, pyI]
  cases ws with
  | nil => simp [PyData.eqv, PyData.eqvAll, pyL, ok]
  | cons k ws => simp [PyData.eqv, PyData.eqvAll, pyL, ok]
theorem eqvI1 (i j : Int) : PyData.eqv (.int i) (.int j) = decide (i = j) := by
  simp only [PyData.eqv]
  first | rfl | exact (Bool.eq_iff_iff.mpr (by simp))
theorem any_nat (k : Nat) : ∀ ws : List Nat, ((pyL (ws.map Dn)).any fun z => PyData.eqv z (py (Dn k))) = decide (k ∈ ws)
  | [] => by simp [pyL]
  | j :: ws => by
    show (PyData.eqv (.int (j : Int)) (.int (k : Int)) || (pyL (ws.map Dn)).any fun z => PyData.eqv z (py (Dn k))) = _
    rw [any_nat k ws, eqvI1]
    by_cases z : k = j
    · subst z; simp
    · have : ¬ (j : Int) = (k : Int) := by omega
      simp [z, this]
theorem in_nat (k : Nat) (ws : List Nat) : dIn (Dn k) (.lst (ws.map Dn)) = some (.ok (.bl (decide (k ∈ ws)))) := by
  show (if fit (Dn k) = true ∧ fit (.lst (ws.map Dn)) = true then ok (D.bl ((pyL (ws.map Dn)).any fun z => PyData.eqv z (py (Dn k)))) else none) = _
  rw [if_pos ⟨fit_int _, by rw [map_Dn]; exact fit_l _⟩, any_nat]
  rfl
section
variable {ss : List S} {cans week : Int} {cl dy : Nat} {is : List Int}
abbrev roB (ss : List S) (cans week : Int) (cl dy : Nat) (is : List Int) (ws : List Nat) (e9 e10 e11 : Ent) : Ro := [.fz (spD3 ss cans week cl), .fz (stD (Dn dy) is), .fz (.lst (ws.map Dn)), .fz (.lst (ss.map S.d)), .fz (.int cans), .fz (.int week), .fz (.int cl), .fz (Dn dy), .fz (.tup (is.map D.int)), e9, e10, e11]
abbrev bL1 : Ro → Option Fl := sIf (bT (eOp dLt (eOp dIx (eVarB 8) (eVarB 9)) (eOp dIx (eOp dIx (eVarB 3) (eVarB 9)) (eC (.int 2)))))
        (sRet (eC .non))
        sNil
/-- may the pot at a place be watered, told plainly -/
def mayS (ss : List S) (is : List Int) (k : Nat) : Bool := match ss[k]?, is[k]? with
  | some s, some i => !decide (i < s.rest)
  | _, _ => false
theorem l1_go (hl : is.length = ss.length) {zs : List Nat} {e10 e11 : Ent} : ∀ (ws : List Nat) (e9 : Ent), (∀ k ∈ ws, k < ss.length) →
    (ws.all (mayS ss is) = true ∧ ∃ e9', forD (gN 9) bL1 (ws.map Dn) (roB ss cans week cl dy is zs e9 e10 e11) = some (.nx (roB ss cans week cl dy is zs e9' e10 e11))) ∨
    (ws.all (mayS ss is) = false ∧ forD (gN 9) bL1 (ws.map Dn) (roB ss cans week cl dy is zs e9 e10 e11) = some (.rt .non))
  | [], e9, _ => .inl ⟨rfl, e9, rfl⟩
  | k :: ws, e9, h => by
    have hk := h k List.mem_cons_self
    have hp : ss[k]? = some ss[k] := List.getElem?_eq_getElem hk
    have hi : is[k]? = some (is[k]'(by omega)) := List.getElem?_eq_getElem (by omega)
    have ePd : (ss.map S.d)[k]? = some (ss[k]).d := by rw [List.getElem?_map, hp]; rfl
    have eId : (is.map D.int)[k]? = some (.int (is[k]'(by omega))) := by rw [List.getElem?_map, hi]; rfl
    have ek : mayS ss is k = !decide ((is[k]'(by omega)) < (ss[k]).rest) := by unfold mayS; rw [hp, hi]
    let ρ1 := roB ss cans week cl dy is zs (.fz (Dn k)) e10 e11
    have hc : bT (eOp dLt (eOp dIx (eVarB 8) (eVarB 9)) (eOp dIx (eOp dIx (eVarB 3) (eVarB 9)) (eC (.int 2)))) ρ1 = some (.ok (!mayS ss is k)) := by
      rw [ek, Bool.not_not]
      exact bT_ev (op_ev (d := .int (is[k]'(by omega))) (e := .int (ss[k]).rest) (op_ev (d := .tup (is.map D.int)) (e := Dn k) rfl rfl (ix_tup eId)) (op_ev (d := (ss[k]).d) (e := .int 2) (op_ev (d := .lst (ss.map S.d)) (e := Dn k) rfl rfl (ix_lst ePd)) rfl rfl) rfl)
    by_cases z : mayS ss is k = true
    · rw [z] at hc
      have hs : bL1 ρ1 = some (.nx ρ1) := if_f hc rfl
      rcases l1_go hl ws (.fz (Dn k)) (fun j hj => h j (List.mem_cons_of_mem _ hj)) with ⟨a, e9', f⟩ | ⟨a, f⟩
      · exact .inl ⟨by rw [List.all_cons, z, a]; rfl, e9', (for_cons (ρ1 := ρ1) rfl hs).trans f⟩
      · exact .inr ⟨by rw [List.all_cons, z, a]; rfl, (for_cons (ρ1 := ρ1) rfl hs).trans f⟩
    · have z' : mayS ss is k = false := by simpa using z
      rw [z'] at hc
      exact .inr ⟨by rw [List.all_cons, z']; rfl, for_rt (ρ1 := ρ1) rfl (if_t hc rfl)⟩
abbrev bL2 : Ro → Option Fl := (sSeq (sSet 11 (eIf (bT (eOp dIn (eVarB 9) (eVarB 2))) (eC (.int 0)) (eOp dAddU (eOp dIx (eVarB 8) (eVarB 9)) (eC (.int 1)))))
      (sSeq (sIf (bT (eOp dEq (eVarB 11) (eOp dIx (eOp dIx (eVarB 3) (eVarB 9)) (eC (.int 1)))))
        (sRet (eOp dIx (eOp dIx (eVarB 3) (eVarB 9)) (eC (.int 0))))
        sNil)
      (gdO 10 (sApp 10 (eVar 11)))))
theorem l2_go {c : Nat} {zs : List Nat} (hz : ∀ k, k < ss.length → (k ∈ zs ↔ c.testBit k = true)) (hg : ∀ s ∈ ss, 1 ≤ s.gap) : ∀ (s1 : List S) (is1 : List Int) (k : Nat) (acc : List Int) (e9 e11 : Ent), ss.drop k = s1 → is.drop k = is1 → is1.length = s1.length → acc.length + s1.length ≤ 1000 →
    (∃ r e9' e11', bhF c k is1 (s1.map S.p) = some r ∧ forD (gN 9) bL2 ((List.range' k s1.length).map Dn) (roB ss cans week cl dy is zs e9 (.ow (acc.map D.int)) e11) = some (.nx (roB ss cans week cl dy is zs e9' (.ow ((acc ++ r).map D.int)) e11'))) ∨
    (bhF c k is1 (s1.map S.p) = none ∧ ∃ nm, forD (gN 9) bL2 ((List.range' k s1.length).map Dn) (roB ss cans week cl dy is zs e9 (.ow (acc.map D.int)) e11) = some (.rt (.str nm)))
  | [], is1, k, acc, e9, e11, h1, h2, hl, _ => by
    have : is1 = [] := by cases is1 with | nil => rfl | cons _ _ => cases hl
    subst this
    exact .inl ⟨[], e9, e11, rfl, by rw [List.append_nil]; rfl⟩
  | s :: s1, [], k, acc, e9, e11, h1, h2, hl, _ => by cases hl
  | s :: s1, i :: is1, k, acc, e9, e11, h1, h2, hl, hy => by
    obtain ⟨g1, g2⟩ := drop_get h1
    obtain ⟨d1, d2⟩ := drop_get h2
    have hk : k < ss.length := (List.getElem?_eq_some_iff.mp g1).1
    have hgap := hg s (List.mem_of_getElem? g1)
    have ePd : (ss.map S.d)[k]? = some s.d := by rw [List.getElem?_map, g1]; rfl
    have eId : (is.map D.int)[k]? = some (.int i) := by rw [List.getElem?_map, d1]; rfl
    simp only [List.length_cons] at hl hy
    let far : Int := if c.testBit k = true then 0 else i + 1
    let ρ1 := roB ss cans week cl dy is zs (.fz (Dn k)) (.ow (acc.map D.int)) e11
    let ρ2 := roB ss cans week cl dy is zs (.fz (Dn k)) (.ow (acc.map D.int)) (.fz (.int far))
    have hin : bT (eOp dIn (eVarB 9) (eVarB 2)) ρ1 = some (.ok (c.testBit k)) := by
      refine bT_ev (op_ev (d := Dn k) (e := .lst (zs.map Dn)) rfl rfl ((in_nat k zs).trans ?_))
      have := hz k hk
      congr 3
      cases hb : c.testBit k with
      | true => exact decide_eq_true (this.mpr hb)
      | false => exact decide_eq_false (fun q => by have := this.mp q; rw [hb] at this; cases this)
    have hfar : sSet 11 (eIf (bT (eOp dIn (eVarB 9) (eVarB 2))) (eC (.int 0)) (eOp dAddU (eOp dIx (eVarB 8) (eVarB 9)) (eC (.int 1)))) ρ1 = some (.nx ρ2) := by
      refine set_ev (i := 11) (d := .int far) ?_
      unfold eIf
      rw [hin, bnd_ok]
      by_cases hb : c.testBit k = true
      · rw [if_pos hb, show far = 0 from if_pos hb]; rfl
      · rw [if_neg hb, show far = i + 1 from if_neg hb]
        exact op_ev (d := .int i) (e := .int 1) (op_ev (d := .tup (is.map D.int)) (e := Dn k) rfl rfl (ix_tup eId)) rfl rfl
    have eP : eOp dIx (eVarB 3) (eVarB 9) ρ2 = some (.ok s.d) := op_ev (d := .lst (ss.map S.d)) (e := Dn k) rfl rfl (ix_lst ePd)
    have hq : bT (eOp dEq (eVarB 11) (eOp dIx (eOp dIx (eVarB 3) (eVarB 9)) (eC (.int 1)))) ρ2 = some (.ok (decide (far = s.gap))) := bT_ev (op_ev (d := .int far) (e := .int s.gap) rfl (op_ev (d := s.d) (e := .int 1) eP rfl rfl) rfl)
    rw [List.length_cons, List.range'_succ, List.map_cons]
    have bh_cons : bhF c k (i :: is1) (s.p :: s1.map S.p) = if far = s.gap then none else (bhF c (k + 1) is1 (s1.map S.p)).map (far :: ·) := by
      show (if c.testBit k = true then (bhF c (k + 1) is1 (s1.map S.p)).map (0 :: ·) else if i + 1 = s.gap then none else (bhF c (k + 1) is1 (s1.map S.p)).map ((i + 1) :: ·)) = _
      by_cases hb : c.testBit k = true
      · rw [if_pos hb, show far = 0 from if_pos hb, if_neg (by omega)]
      · rw [if_neg hb, show far = i + 1 from if_neg hb]
    by_cases hd : far = s.gap
    · rw [decide_eq_true hd] at hq
      refine .inr ⟨by rw [bh_cons, if_pos hd], s.nm, for_rt (ρ1 := ρ1) rfl ((seq_nx hfar).trans (seq_rt (if_t hq (ret_ev (op_ev (d := s.d) (e := .int 0) eP rfl rfl)))))⟩
    · rw [decide_eq_false hd] at hq
      have hs : bL2 ρ1 = some (.nx (roB ss cans week cl dy is zs (.fz (Dn k)) (.ow ((acc ++ [far]).map D.int)) (.fz (.int far)))) := by
        refine (seq_nx hfar).trans ((seq_nx (if_f hq rfl)).trans ?_)
        rw [List.map_append]
        exact app_ev (i := 10) (ds := acc.map D.int) (d := .int far) rfl rfl (by rw [List.length_map]; omega)
      rcases l2_go hz hg s1 is1 (k + 1) (acc ++ [far]) (.fz (Dn k)) (.fz (.int far)) g2 d2 (by omega) (by simp; omega) with ⟨r, e9', e11', a, f⟩ | ⟨a, nm, f⟩
      · refine .inl ⟨far :: r, e9', e11', by rw [bh_cons, if_neg hd, a]; rfl, (for_cons (ρ1 := ρ1) rfl hs).trans (f.trans ?_)⟩
        rw [List.append_assoc]; rfl
      · exact .inr ⟨by rw [bh_cons, if_neg hd, a]; rfl, nm, (for_cons (ρ1 := ρ1) rfl hs).trans f⟩
end
end K09
namespace K09
open PySem PySem.Spec PyProof.Rows L2 Tw
section
variable {ss : List S} {cans week : Int} {cl dy : Nat} {is : List Int}
theorem mayK_S (hi : okI is (ss.map S.p)) : ∀ k, k < ss.length → mayK (ss.map S.p) is k = mayS ss is k := by
  induction ss generalizing is with
  | nil => intro k hk; simp at hk
  | cons s ss ih =>
    intro k hk
    cases is with
    | nil => exact hi.elim
    | cons i is =>
      cases k with
      | zero =>
        show mayP s.p i = !decide (i < s.rest)
        have h0 := hi.1.1
        unfold mayP S.p
        by_cases z : s.rest < 0
        · rw [if_pos z, decide_eq_false (by omega)]; rfl
        · rw [if_neg z]
          show decide (s.rest ≤ i) = _
          by_cases y : i < s.rest
          · rw [decide_eq_true y, decide_eq_false (by omega)]; rfl
          · rw [decide_eq_false y, decide_eq_true (by omega)]; rfl
      | succ k => exact ih hi.2 k (by simpa using hk)
theorem all_may (hi : okI is (ss.map S.p)) (c : Nat) : (wet ss.length c).all (mayK (ss.map S.p) is) = (wet ss.length c).all (mayS ss is) := by
  rw [Bool.eq_iff_iff, List.all_eq_true, List.all_eq_true]
  constructor <;> intro h k hk
  · rw [← mayK_S hi k (wet_mem.mp hk).1]; exact h k hk
  · rw [mayK_S hi k (wet_mem.mp hk).1]; exact h k hk
abbrev roS (ss : List S) (cans week : Int) (cl : Nat) (st : D) (acc : List D) (e3 e4 e5 e6 : Ent) : Ro := [.fz (spD3 ss cans week cl), .fz st, .ow acc, e3, e4, e5, e6]
end
end K09
namespace K09
open PySem PySem.Spec PyProof.Rows L2 Tw
/-! ### all states -/
abbrev fD (is : List Int) : D := .tup (is.map D.int)
def ext (g : Nat) (is : List Int) : List (List Int) := (List.range' 0 g).map fun (f : Nat) => is ++ [(f : Int)]
theorem ext_len (g : Nat) (is : List Int) : (ext g is).length = g := by unfold ext; rw [List.length_map, List.length_range']
def sinceGo : List (List Int) → List S → List (List Int)
  | L, [] => L
  | L, s :: ss => sinceGo (L.flatMap (ext s.gap.toNat)) ss
theorem flat_len (g : Nat) : ∀ L : List (List Int), (L.flatMap (ext g)).length = L.length * g
  | [] => by simp
  | is :: L => by rw [List.flatMap_cons, List.length_append, flat_len g L, ext_len, List.length_cons, Nat.succ_mul]; omega
def prodS : Nat → List S → Nat
  | n, [] => n
  | n, s :: ss => prodS (n * s.gap.toNat) ss
theorem sinceGo_len : ∀ (ss : List S) (L : List (List Int)), (sinceGo L ss).length = prodS L.length ss
  | [], L => rfl
  | s :: ss, L => by show (sinceGo (L.flatMap (ext s.gap.toNat)) ss).length = prodS (L.length * s.gap.toNat) ss; rw [sinceGo_len ss, flat_len]
theorem prodS_ge : ∀ (ss : List S) (n : Nat), (∀ s ∈ ss, 1 ≤ s.gap) → n ≤ prodS n ss
  | [], n, _ => Nat.le_refl _
  | s :: ss, n, h => by
    have h1 := h s List.mem_cons_self
    have := prodS_ge ss (n * s.gap.toNat) fun t ht => h t (List.mem_cons_of_mem _ ht)
    have h2 : n * 1 ≤ n * s.gap.toNat := Nat.mul_le_mul_left _ (by omega)
    show n ≤ prodS (n * s.gap.toNat) ss
    omega
theorem okI_app : ∀ {is : List Int} {pre : List P} {f : Int} {p : P}, okI is pre → 0 ≤ f ∧ f < p.gap → okI (is ++ [f]) (pre ++ [p])
  | [], [], f, p, _, h => ⟨h, trivial⟩
  | i :: is, q :: pre, f, p, h, hf => ⟨h.1, okI_app h.2 hf⟩
theorem sinceGo_ok : ∀ (ss : List S) (L : List (List Int)) (pre : List P), (∀ is ∈ L, okI is pre) → ∀ is ∈ sinceGo L ss, okI is (pre ++ ss.map S.p)
  | [], L, pre, h, is, hi => by rw [List.map_nil, List.append_nil]; exact h is hi
  | s :: ss, L, pre, h, is, hi => by
    have := sinceGo_ok ss (L.flatMap (ext s.gap.toNat)) (pre ++ [s.p]) (fun js hj => by
      obtain ⟨ks, hk, hx⟩ := List.mem_flatMap.mp hj
      obtain ⟨f, hf, rfl⟩ := List.mem_map.mp hx
      have := (List.mem_range'_1.mp hf).2
      exact okI_app (h ks hk) ⟨by omega, by show (f : Int) < s.gap; omega⟩) is hi
    rw [List.append_assoc] at this
    exact this
theorem sinceGo_head : ∀ (ss : List S) (L : List (List Int)) (z : List Int), (∀ s ∈ ss, 1 ≤ s.gap) → L.head? = some z → (sinceGo L ss).head? = some (z ++ List.replicate ss.length 0)
  | [], L, z, _, h => by
    show L.head? = some (z ++ [])
    rw [List.append_nil]; exact h
  | s :: ss, L, z, hg, h => by
    obtain ⟨T, rfl⟩ : ∃ T, L = z :: T := by
      cases L with
      | nil => cases h
      | cons a T => cases h; exact ⟨T, rfl⟩
    have h1 := hg s List.mem_cons_self
    obtain ⟨m, hm⟩ : ∃ m, s.gap.toNat = m + 1 := ⟨s.gap.toNat - 1, by omega⟩
    have := sinceGo_head ss ((z :: T).flatMap (ext s.gap.toNat)) (z ++ [0]) (fun t ht => hg t (List.mem_cons_of_mem _ ht)) (by
      rw [List.flatMap_cons, hm]
      unfold ext
      rw [List.range'_succ]
      rfl)
    rw [List.append_assoc] at this
    exact this
section
variable {ss : List S} {cans : Int} {cl week : Nat}
abbrev roT (sp : D) (e1 e2 e3 e4 e5 e6 e7 e8 : Ent) : Ro := [.fz sp, e1, e2, e3, e4, e5, e6, e7, e8, .un]
abbrev bX : Ro → Option Fl := gdO 5 (sExt 5 (eLc [9] (gN 9) (iRg dRng1 (aCons (eVarB 3) aNil)) bYes (eOp dAddU (eVarB 6) (eTup (aCons (eVar 9) aNil)))))
theorem extend_ev {i : Nat} {f : Ro → EM D} {ρ : Ro} {ds es : List D} (h0 : ρ[i]? = some (.ow ds)) (h : f ρ = some (.ok (.lst es))) (hl : ds.length + es.length ≤ 1000000) : gdO i (sExt i f) ρ = some (.nx (ρ.set i (.ow (ds ++ es)))) := by
  unfold gdO isOw
  rw [h0]
  dsimp only
  rw [if_pos rfl]
  unfold sExt
  rw [h, toS_ok, h0]
  dsimp only
  rw [if_pos (by have := sizeLine_eq; omega)]
theorem add_tup (xs ys : List D) (h : xs.length + ys.length ≤ 1000) : dAddU (.tup xs) (.tup ys) = some (.ok (.tup (xs ++ ys))) := by
  show (if _ then _ else _) = _
  rw [if_pos (by have := sizeLine_eq; omega)]
  rfl
theorem x_go {sp e1 e2 e4 e7 e8 : _} {g : Nat} (hg : g ≤ 60) : ∀ (L : List (List Int)) (acc : List (List Int)) (e6 : Ent), (∀ is ∈ L, is.length ≤ 900) → acc.length + L.length * g ≤ 100000 →
    ∃ e6', forD (gN 6) bX (L.map fD) (roT sp e1 e2 (.fz (Dn g)) e4 (.ow (acc.map fD)) e6 e7 e8) = some (.nx (roT sp e1 e2 (.fz (Dn g)) e4 (.ow ((acc ++ L.flatMap (ext g)).map fD)) e6' e7 e8))
  | [], acc, e6, _, _ => ⟨e6, by rw [List.flatMap_nil, List.append_nil]; rfl⟩
  | is :: L, acc, e6, hk, hl => by
    rw [List.length_cons, Nat.succ_mul] at hl
    have hi := hk is List.mem_cons_self
    obtain ⟨e6', ih⟩ := x_go (sp := sp) (e1 := e1) (e2 := e2) (e4 := e4) (e7 := e7) (e8 := e8) hg L (acc ++ ext g is) (.fz (fD is)) (fun js hj => hk js (List.mem_cons_of_mem _ hj)) (by rw [List.length_append, ext_len]; omega)
    refine ⟨e6', ?_⟩
    rw [List.map_cons]
    refine (for_cons (ρ1 := roT sp e1 e2 (.fz (Dn g)) e4 (.ow (acc.map fD)) (.fz (fD is)) e7 e8) (ρ2 := roT sp e1 e2 (.fz (Dn g)) e4 (.ow ((acc ++ ext g is).map fD)) (.fz (fD is)) e7 e8) rfl ?_).trans (ih.trans ?_)
    · rw [List.map_append]
      refine extend_ev (i := 5) (ds := acc.map fD) (es := (ext g is).map fD) rfl ?_ (by rw [List.length_map, List.length_map, ext_len]; omega)
      refine lc_ev (ds := (List.range' 0 g).map Dn) (rg_ev (ds := [Dn g]) rfl (rng1_is g (by omega))) ?_ (by rw [List.length_map, ext_len]; omega)
      rw [lc_map (F := fun d => .tup (is.map D.int ++ [d]))]
      · unfold ext
        rw [List.map_map, List.map_map]
        congr 1
        apply List.map_congr_left
        intro f _
        show D.tup (is.map D.int ++ [Dn f]) = .tup ((is ++ [(f : Int)]).map D.int)
        rw [List.map_append]; rfl
      · intro d hd
        obtain ⟨f, _, rfl⟩ := List.mem_map.mp hd
        refine ⟨roT sp e1 e2 (.fz (Dn g)) e4 (.ow (acc.map fD)) (.fz (fD is)) e7 e8 |>.set 9 (.fz (Dn f)), rfl, rfl, op_ev (d := .tup (is.map D.int)) (e := .tup [Dn f]) rfl (tup_ev (n := 1) (a_cons rfl rfl) (Nat.le_refl 1)) (add_tup _ _ (by rw [List.length_map, List.length_singleton]; omega))⟩
    · rw [List.append_assoc, List.flatMap_cons]
abbrev bY : Ro → Option Fl := (sSeq (sSetO 5 (eLst aNil))
      (sSeq (frz 1 (sFor (gN 6) (iOf (eVar 1))
        bX))
      (sMove 1 5)))
theorem y_go {sp : D} : ∀ (s1 : List S) (L : List (List Int)) (e2 e3 e4 e6 : Ent), (∀ s ∈ s1, 1 ≤ s.gap ∧ s.gap ≤ 60) → (∀ is ∈ L, is.length + s1.length ≤ 900) → prodS L.length s1 ≤ 100000 →
    ∃ e2' e3' e4' e6', forD (gT (gsC (gN 2) (gsC (gN 3) (gsC (gN 4) gs0))) 3) bY (s1.map S.d) (roT sp (.ow (L.map fD)) e2 e3 e4 .un e6 .un .un) = some (.nx (roT sp (.ow ((sinceGo L s1).map fD)) e2' e3' e4' .un e6' .un .un))
  | [], L, e2, e3, e4, e6, _, _, _ => ⟨e2, e3, e4, e6, rfl⟩
  | s :: s1, L, e2, e3, e4, e6, hg, hk, hl => by
    have h1 := hg s List.mem_cons_self
    have hg1 : ∀ t ∈ s1, 1 ≤ t.gap ∧ t.gap ≤ 60 := fun t ht => hg t (List.mem_cons_of_mem _ ht)
    have hl' : prodS (L.length * s.gap.toNat) s1 ≤ 100000 := hl
    have hb := prodS_ge s1 (L.length * s.gap.toNat) fun t ht => (hg1 t ht).1
    have hgn : (.int s.gap : D) = Dn s.gap.toNat := by
      show D.int s.gap = D.int (s.gap.toNat : Int)
      rw [Int.toNat_of_nonneg (by omega)]
    obtain ⟨e6a, hx⟩ := x_go (sp := sp) (e1 := .fz (.lst (L.map fD))) (e2 := .fz (.str s.nm)) (e4 := .fz (.int s.rest)) (e7 := .un) (e8 := .un) (g := s.gap.toNat) (by omega) L [] e6 (fun is hi => by have := hk is hi; simp only [List.length_cons] at this; omega) (by simp; omega)
    rw [List.nil_append, ← hgn] at hx
    obtain ⟨f2, f3, f4, f6, ih⟩ := y_go (sp := sp) s1 (L.flatMap (ext s.gap.toNat)) (.fz (.str s.nm)) (.fz (.int s.gap)) (.fz (.int s.rest)) e6a hg1 (fun is hi => by
      obtain ⟨ks, hks, hx⟩ := List.mem_flatMap.mp hi
      obtain ⟨f, _, rfl⟩ := List.mem_map.mp hx
      have := hk ks hks
      simp only [List.length_cons, List.length_append, List.length_nil] at this ⊢
      omega) (by rw [flat_len]; exact hl')
    refine ⟨f2, f3, f4, f6, ?_⟩
    rw [List.map_cons]
    refine (for_cons (ρ1 := roT sp (.ow (L.map fD)) (.fz (.str s.nm)) (.fz (.int s.gap)) (.fz (.int s.rest)) .un e6 .un .un) (ρ2 := roT sp (.ow ((L.flatMap (ext s.gap.toNat)).map fD)) (.fz (.str s.nm)) (.fz (.int s.gap)) (.fz (.int s.rest)) .un e6a .un .un) rfl ?_).trans ih
    refine (seq_nx (ρ' := roT sp (.ow (L.map fD)) (.fz (.str s.nm)) (.fz (.int s.gap)) (.fz (.int s.rest)) (.ow ([].map fD)) e6 .un .un) rfl).trans ((seq_nx (ρ' := roT sp (.fz (.lst (L.map fD))) (.fz (.str s.nm)) (.fz (.int s.gap)) (.fz (.int s.rest)) (.ow ((L.flatMap (ext s.gap.toNat)).map fD)) e6a .un .un) ?_).trans rfl)
    exact (for_ev (ds := L.map fD) rfl hx)
/-- the states in the order of their numbers -/
def statesF (ss : List S) (week : Nat) : List D := (List.range' 0 week).flatMap fun d => (sinceGo [[]] ss).map fun is => stD (Dn d) is
abbrev bZ : Ro → Option Fl := (frz 1 (gdO 7 (sExt 7 (eLc [6] (gN 6) (iOf (eVar 1)) bYes (eTup (aCons (eVar 8) (aCons (eVar 6) aNil)))))))
theorem z_go {sp e2 e3 e4 e5 e6 : _} {L : List (List Int)} : ∀ (m s : Nat) (acc : List D) (e1 e8 : Ent), (e1 = .ow (L.map fD) ∨ e1 = .fz (.lst (L.map fD))) → acc.length + m * L.length ≤ 100000 →
    ∃ e1' e8', forD (gN 8) bZ ((List.range' s m).map Dn) (roT sp e1 e2 e3 e4 e5 e6 (.ow acc) e8) = some (.nx (roT sp e1' e2 e3 e4 e5 e6 (.ow (acc ++ (List.range' s m).flatMap fun d => L.map fun is => stD (Dn d) is)) e8'))
  | 0, s, acc, e1, e8, _, _ => ⟨e1, e8, by rw [show List.range' s 0 = [] from rfl, List.flatMap_nil, List.append_nil]; rfl⟩
  | m + 1, s, acc, e1, e8, he, hl => by
    rw [Nat.succ_mul] at hl
    obtain ⟨f1, f8, ih⟩ := z_go (sp := sp) (e2 := e2) (e3 := e3) (e4 := e4) (e5 := e5) (e6 := e6) (L := L) m (s + 1) (acc ++ L.map fun is => stD (Dn s) is) (.fz (.lst (L.map fD))) (.fz (Dn s)) (.inr rfl) (by rw [List.length_append, List.length_map]; omega)
    refine ⟨f1, f8, ?_⟩
    rw [List.range'_succ, List.map_cons]
    refine (for_cons (ρ1 := roT sp e1 e2 e3 e4 e5 e6 (.ow acc) (.fz (Dn s))) (ρ2 := roT sp (.fz (.lst (L.map fD))) e2 e3 e4 e5 e6 (.ow (acc ++ L.map fun is => stD (Dn s) is)) (.fz (Dn s))) rfl ?_).trans (ih.trans ?_)
    · have core : gdO 7 (sExt 7 (eLc [6] (gN 6) (iOf (eVar 1)) bYes (eTup (aCons (eVar 8) (aCons (eVar 6) aNil))))) (roT sp (.fz (.lst (L.map fD))) e2 e3 e4 e5 e6 (.ow acc) (.fz (Dn s))) = some (.nx (roT sp (.fz (.lst (L.map fD))) e2 e3 e4 e5 e6 (.ow (acc ++ L.map fun is => stD (Dn s) is)) (.fz (Dn s)))) := by
        refine extend_ev (i := 7) (ds := acc) (es := L.map fun is => stD (Dn s) is) rfl ?_ (by rw [List.length_map]; omega)
        refine lc_ev (ds := L.map fD) rfl ?_ (by rw [List.length_map]; omega)
        rw [lc_map (F := fun d => .tup [Dn s, d])]
        · rw [List.map_map]; rfl
        · intro d _
          exact ⟨_, rfl, rfl, tup_ev (n := 2) (a_cons rfl (a_cons rfl rfl)) (Nat.le_refl 2)⟩
      rcases he with rfl | rfl
      · exact core
      · exact core
    · rw [List.append_assoc, List.flatMap_cons]
theorem states_mem {d : D} (h : d ∈ statesF ss week) : ∃ (dy : Nat) (is : List Int), d = stD (Dn dy) is ∧ dy < week ∧ okI is (ss.map S.p) := by
  obtain ⟨dy, hd, hm⟩ := List.mem_flatMap.mp h
  obtain ⟨is, hi, rfl⟩ := List.mem_map.mp hm
  refine ⟨dy, is, rfl, by have := (List.mem_range'_1.mp hd).2; omega, ?_⟩
  have := sinceGo_ok ss [[]] [] (fun js hj => by rw [List.mem_singleton.mp hj]; exact trivial) is hi
  rwa [List.nil_append] at this
theorem states_head (hw : 1 ≤ week) (hg : ∀ s ∈ ss, 1 ≤ s.gap) : (statesF ss week)[0]? = some (stD (Dn 0) (List.replicate ss.length 0)) := by
  obtain ⟨m, rfl⟩ : ∃ m, week = m + 1 := ⟨week - 1, by omega⟩
  have h := sinceGo_head ss [[]] [] hg rfl
  rw [List.nil_append] at h
  unfold statesF
  rw [List.range'_succ, List.flatMap_cons]
  generalize sinceGo [[]] ss = L at *
  cases L with
  | nil => cases h
  | cons a T => cases h; rfl
end
end K09
namespace K09
open PySem PySem.Spec PyProof.Rows L2 Tw
/-! ### a garden told plainly, and made -/
def namesS : List Str → List (Str × Int) → Option (List (Str × Int))
  | [], ks => some ks
  | s :: r, ks => if hasN ks s = true then none else namesS r (ks ++ [(s, (ks.length : Int))])
theorem namesGo_nm : ∀ (ps : List P) (ks : List (Str × Int)), namesGo (ps.map P.d) ks = some (namesS (ps.map (·.nm)) ks)
  | [], ks => rfl
  | p :: ps, ks => by
    rw [List.map_cons, List.map_cons]
    unfold namesGo namesS
    rw [p.nm_is]
    dsimp only
    split
    · rfl
    · exact namesGo_nm ps _
structure Sok (ss : List S) (cans : Int) (wk cl : Nat) : Prop where
  n1 : 1 ≤ ss.length
  n8 : ss.length ≤ 8
  g : ∀ s ∈ ss, 1 ≤ s.gap ∧ s.gap ≤ 60 ∧ -1 ≤ s.rest ∧ s.rest < s.gap
  nm : ∀ s ∈ ss, m_is_name [.str s.nm] = some (.ret (.bl true))
  ks : ∃ ks, namesS (ss.map (·.nm)) [] = some ks
  cn : 0 ≤ cans ∧ cans ≤ 8
  w : 1 ≤ wk ∧ wk ≤ 14
  c : cl < 2 ^ wk
  z : wk * prodS 1 ss ≤ 20000
theorem prodS_mul : ∀ (ss : List S) (n : Nat), prodS n ss = n * prodS 1 ss
  | [], n => by show n = n * 1; omega
  | s :: ss, n => by
    show prodS (n * s.gap.toNat) ss = n * prodS (1 * s.gap.toNat) ss
    rw [prodS_mul ss (n * s.gap.toNat), prodS_mul ss (1 * s.gap.toNat), Nat.one_mul, Nat.mul_assoc]
theorem prodG_S : ∀ (ss : List S) (n : Nat), (∀ s ∈ ss, 1 ≤ s.gap) → prodG (n : Int) (ss.map S.p) = (prodS n ss : Nat)
  | [], n, _ => rfl
  | s :: ss, n, h => by
    have h1 := h s List.mem_cons_self
    show prodG ((n : Int) * s.gap) (ss.map S.p) = (prodS (n * s.gap.toNat) ss : Nat)
    rw [← prodG_S ss (n * s.gap.toNat) fun t ht => h t (List.mem_cons_of_mem _ ht)]
    congr 1
    rw [Int.natCast_mul, Int.toNat_of_nonneg (by omega)]
section
variable {ss : List S} {cans : Int} {wk cl : Nat}
theorem Sok.gap (h : Sok ss cans wk cl) : Gap (ss.map S.p) := fun p hp => by
  obtain ⟨s, hs, rfl⟩ := List.mem_map.mp hp
  have := h.g s hs
  exact ⟨this.1, this.2.1⟩
theorem Sok.g1 (h : Sok ss cans wk cl) : ∀ s ∈ ss, 1 ≤ s.gap := fun s hs => (h.g s hs).1
theorem Sok.size (h : Sok ss cans wk cl) : prodG (wk : Int) (ss.map S.p) = ((wk * prodS 1 ss : Nat) : Int) := by rw [prodG_S ss wk h.g1, prodS_mul]
theorem Sok.z2 (h : Sok ss cans wk cl) : prodS 1 ss ≤ 20000 := by
  have h1 := h.z
  have h2 := h.w.1
  have : 1 * prodS 1 ss ≤ wk * prodS 1 ss := Nat.mul_le_mul_right _ h2
  omega
abbrev bGd : Ro → Option Fl := (sIf (bT (eOp dLt (eVarB 4) (eC (.int 0))))
        (gdO 1 (sApp 1 (eCall (dDef 2 [] (dMake mi_Pot .pot)) (aCons (eVar 2) (aCons (eVar 3) aNil)))))
        (gdO 1 (sApp 1 (eCall (dDef 3 [] (dMake mi_Cactus .cactus)) (aCons (eVar 2) (aCons (eVar 3) (aCons (eVar 4) aNil)))))))
theorem gd_go {sp : D} : ∀ (s1 : List S) (acc : List D) (e2 e3 e4 : Ent), (∀ s ∈ s1, 1 ≤ s.gap ∧ s.gap ≤ 60 ∧ -1 ≤ s.rest ∧ s.rest < s.gap) → (∀ s ∈ s1, m_is_name [.str s.nm] = some (.ret (.bl true))) → acc.length + s1.length ≤ 1000 →
    ∃ e2' e3' e4', forD (gT (gsC (gN 2) (gsC (gN 3) (gsC (gN 4) gs0))) 3) bGd (s1.map S.d) [.fz sp, .ow acc, e2, e3, e4] = some (.nx [.fz sp, .ow (acc ++ (s1.map S.p).map P.d), e2', e3', e4'])
  | [], acc, e2, e3, e4, _, _, _ => ⟨e2, e3, e4, by show _ = some (Fl.nx [.fz sp, .ow (acc ++ []), e2, e3, e4]); rw [List.append_nil]; rfl⟩
  | s :: s1, acc, e2, e3, e4, hg, hn, hl => by
    simp only [List.length_cons] at hl
    have g1 := hg s List.mem_cons_self
    have n1 := hn s List.mem_cons_self
    obtain ⟨f2, f3, f4, ih⟩ := gd_go (sp := sp) s1 (acc ++ [s.p.d]) (.fz (.str s.nm)) (.fz (.int s.gap)) (.fz (.int s.rest)) (fun t ht => hg t (List.mem_cons_of_mem _ ht)) (fun t ht => hn t (List.mem_cons_of_mem _ ht)) (by simp; omega)
    refine ⟨f2, f3, f4, ?_⟩
    rw [List.map_cons, List.map_cons, List.map_cons]
    let ρ1 : Ro := [.fz sp, .ow acc, .fz (.str s.nm), .fz (.int s.gap), .fz (.int s.rest)]
    have hc : bT (eOp dLt (eVarB 4) (eC (.int 0))) ρ1 = some (.ok (decide (s.rest < 0))) := bT_ev (op_ev (d := .int s.rest) (e := .int 0) rfl rfl rfl)
    have hs : bGd ρ1 = some (.nx [.fz sp, .ow (acc ++ [s.p.d]), .fz (.str s.nm), .fz (.int s.gap), .fz (.int s.rest)]) := by
      by_cases z : s.rest < 0
      · rw [decide_eq_true z] at hc
        have : s.p.d = .obj .pot [.str s.nm, .int s.gap] := by unfold S.p P.d; rw [if_pos z]
        rw [this]
        exact if_t hc (app_ev (i := 1) (ds := acc) (d := .obj .pot [.str s.nm, .int s.gap]) rfl (call_ev (ds := [.str s.nm, .int s.gap]) rfl ((def_all rfl).trans (make_ok (pot_ok n1 ⟨g1.1, g1.2.1⟩)))) (by omega))
      · rw [decide_eq_false z] at hc
        have : s.p.d = .obj .cactus [.str s.nm, .int s.gap, .int s.rest] := by unfold S.p P.d; rw [if_neg z]
        rw [this]
        exact if_f hc (app_ev (i := 1) (ds := acc) (d := .obj .cactus [.str s.nm, .int s.gap, .int s.rest]) rfl (call_ev (ds := [.str s.nm, .int s.gap, .int s.rest]) rfl ((def_all rfl).trans (make_ok (cac_ok n1 ⟨g1.1, g1.2.1⟩ ⟨by omega, by omega⟩)))) (by omega))
    refine (for_cons (ρ1 := ρ1) rfl hs).trans (ih.trans ?_)
    rw [List.append_assoc]; rfl
theorem closed_z (h : cl < 2 ^ wk) : (cl : Int) / 2 ^ ((wk : Int).toNat) = 0 := by
  rw [Int.toNat_natCast]
  have : ((cl / 2 ^ wk : Nat) : Int) = 0 := by rw [Nat.div_eq_of_lt h]; rfl
  rw [← this]
  norm_cast
end
end K09
namespace K09
open PySem PySem.Spec PyProof.Rows L2 Tw
/-! ### the spec by a script -/
def nm5 (j : Nat) : Str := ["ivy", "iv", "fern", "fernz", "a"].getD j ""
theorem nm5_ok (j : Nat) (h : j < 5) : m_is_name [.str (nm5 j)] = some (.ret (.bl true)) := by
  match j, h with
  | 0, _ => kernel_rfl
  | 1, _ => kernel_rfl
  | 2, _ => kernel_rfl
  | 3, _ => kernel_rfl
  | 4, _ => kernel_rfl
theorem nm5_ix (j : Nat) (h : j < 5) : dIx (.tup [.str "ivy", .str "iv", .str "fern", .str "fernz", .str "a"]) (.int j) = some (.ok (.str (nm5 j))) := by
  match j, h with
  | 0, _ => rfl
  | 1, _ => rfl
  | 2, _ => rfl
  | 3, _ => rfl
  | 4, _ => rfl
def nms (r n : Nat) : List Str := (List.range' 0 n).map fun k => nm5 ((r + k) % 5)
theorem nms_ok (r n : Nat) (hr : r < 5) (hn : n ≤ 3) : ∃ ks, namesS (nms r n) [] = some ks := by
  have : ∀ r : Fin 5, ∀ n : Fin 4, (namesS (nms r.val n.val) []).isSome = true := by decide +kernel
  exact Option.isSome_iff_exists.mp (this ⟨r, hr⟩ ⟨n, by omega⟩)
theorem cellN {ρ : Ro} {f g : Ro → EM D} {ns : List Int} {k : Nat} (h1 : f ρ = some (.ok (.scr ns))) (h2 : g ρ = some (.ok (.int k))) : eCall (dDef 2 [] (dCall m_law_cell_at)) (aCons f (aCons g aNil)) ρ = some (.ok (.int (ns.getD k 0))) :=
  call_ev (ds := [.scr ns, .int k]) (a_cons h1 (a_cons h2 rfl)) ((def_all rfl).trans (call_ret (cell_is ns k)))
theorem modE {f : Ro → EM D} {ρ : Ro} {i j : Int} (h : f ρ = some (.ok (.int i))) (hj : 0 < j) : eOp dMod f (eC (.int j)) ρ = some (.ok (.int (i % j))) := op_ev h rfl (mod_ev hj)
theorem divE {f : Ro → EM D} {ρ : Ro} {i j : Int} (h : f ρ = some (.ok (.int i))) (hj : 0 < j ∧ j < 1073741824) : eOp dDiv f (eC (.int j)) ρ = some (.ok (.int (i / j))) := op_ev h rfl (div_ev hj)
theorem eqE {f : Ro → EM D} {ρ : Ro} {i j : Int} (h : f ρ = some (.ok (.int i))) : bT (eOp dEq f (eC (.int j))) ρ = some (.ok (decide (i = j))) := bT_ev (op_ev h rfl rfl)
abbrev roP (ns : List Int) (first : Nat) (e2 e3 e4 e5 e6 e7 e8 e9 e10 e11 e12 e13 : Ent) : Ro := [.fz (.scr ns), .fz (Dn first), e2, e3, e4, e5, e6, e7, e8, e9, e10, e11, e12, e13]
abbrev nmT : D := .tup [.str "ivy", .str "iv", .str "fern", .str "fernz", .str "a"]
abbrev bSp : Ro → Option Fl := (sSeq (sSet 10 (eOp dAddU (eC (.int 1)) (eCall (dDef 3 [] (dCall m_law_draw)) (aCons (eVar 3) (aCons (eVar 9) (aCons (eVar 6) aNil))))))
      (sSeq (sSet 11 (e1 dNeg (eC (.int 1))))
      (sSeq (sIf (bT (eOp dEq (eCall (dDef 3 [] (dCall m_law_draw)) (aCons (eVar 3) (aCons (eOp dAddU (eVarB 9) (eC (.int 4))) (aCons (eC (.int 4)) aNil)))) (eC (.int 0))))
        (sSet 11 (eCall (dDef 3 [] (dCall m_law_draw)) (aCons (eVar 3) (aCons (eOp dAddU (eVarB 9) (eC (.int 5))) (aCons (eVar 10) aNil)))))
        sNil)
      (gdO 8 (sApp 8 (eTup (aCons (eOp dIx (eVarB 7) (eOp dMod (eOp dAddU (eOp dDiv (eVarB 2) (eC (.int 54))) (eVarB 9)) (eC (.int 5)))) (aCons (eVar 10) (aCons (eVar 11) aNil)))))))))
def r5 (cell : Int) : Nat := (cell / 54 % 5).toNat
theorem r5_lt (c : Int) : r5 c < 5 := by unfold r5; have := Int.emod_lt_of_pos (c / 54) (show (0 : Int) < 5 by decide); have := Int.emod_nonneg (c / 54) (show (5 : Int) ≠ 0 by decide); omega
theorem r5_add (c : Int) (k : Nat) : (c / 54 + k) % 5 = (((r5 c + k) % 5 : Nat) : Int) := by
  unfold r5
  have := Int.emod_nonneg (c / 54) (show (5 : Int) ≠ 0 by decide)
  omega
theorem sp_step {ns : List Int} {first k : Nat} {cell other most : Int} {third e4 e5 e10 e11 e12 e13 : Ent} {acc : List D} (hm : 0 < most) (hl : acc.length < 1000) :
    ∃ g r f10 f11, (1 ≤ g ∧ g ≤ most ∧ -1 ≤ r ∧ r < g) ∧ bSp (roP ns first (.fz (.int cell)) (.fz (.int other)) e4 e5 (.fz (.int most)) (.fz nmT) (.ow acc) (.fz (Dn k)) e10 e11 e12 e13) =
      some (.nx (roP ns first (.fz (.int cell)) (.fz (.int other)) e4 e5 (.fz (.int most)) (.fz nmT) (.ow (acc ++ [(S.mk (nm5 ((r5 cell + k) % 5)) g r).d])) (.fz (Dn k)) f10 f11 e12 e13)) := by
  obtain ⟨v, v0, v1, hv⟩ := draw_is other k most hm
  obtain ⟨u, u0, u1, hu⟩ := draw_is other (k + 4) 4 (by decide)
  obtain ⟨t, t0, t1, ht⟩ := draw_is other (k + 5) (1 + v) (by omega)
  let ρ := fun (a b : Ent) => roP ns first (.fz (.int cell)) (.fz (.int other)) e4 e5 (.fz (.int most)) (.fz nmT) (.ow acc) (.fz (Dn k)) a b e12 e13
  have s1 : sSet 10 (eOp dAddU (eC (.int 1)) (eCall (dDef 3 [] (dCall m_law_draw)) (aCons (eVar 3) (aCons (eVar 9) (aCons (eVar 6) aNil))))) (ρ e10 e11) = some (.nx (ρ (.fz (.int (1 + v))) e11)) :=
    set_ev (i := 10) (op_ev (d := .int 1) (e := .int v) rfl (call_ev (ds := [.int other, Dn k, .int most]) rfl hv) rfl)
  have s2 : sSet 11 (e1 dNeg (eC (.int 1))) (ρ (.fz (.int (1 + v))) e11) = some (.nx (ρ (.fz (.int (1 + v))) (.fz (.int (-1))))) := rfl
  have hc : bT (eOp dEq (eCall (dDef 3 [] (dCall m_law_draw)) (aCons (eVar 3) (aCons (eOp dAddU (eVarB 9) (eC (.int 4))) (aCons (eC (.int 4)) aNil)))) (eC (.int 0))) (ρ (.fz (.int (1 + v))) (.fz (.int (-1)))) = some (.ok (decide (u = 0))) :=
    eqE (call_ev (ds := [.int other, .int (k + 4), .int 4]) rfl hu)
  obtain ⟨r, hr, s3⟩ : ∃ r, (-1 ≤ r ∧ r < 1 + v) ∧ sIf (bT (eOp dEq (eCall (dDef 3 [] (dCall m_law_draw)) (aCons (eVar 3) (aCons (eOp dAddU (eVarB 9) (eC (.int 4))) (aCons (eC (.int 4)) aNil)))) (eC (.int 0))))
        (sSet 11 (eCall (dDef 3 [] (dCall m_law_draw)) (aCons (eVar 3) (aCons (eOp dAddU (eVarB 9) (eC (.int 5))) (aCons (eVar 10) aNil))))) sNil (ρ (.fz (.int (1 + v))) (.fz (.int (-1)))) = some (.nx (ρ (.fz (.int (1 + v))) (.fz (.int r)))) := by
    by_cases z : u = 0
    · rw [decide_eq_true z] at hc
      exact ⟨t, by omega, if_t hc (set_ev (i := 11) (call_ev (ds := [.int other, .int (k + 5), .int (1 + v)]) rfl ht))⟩
    · rw [decide_eq_false z] at hc
      exact ⟨-1, by omega, if_f hc rfl⟩
  refine ⟨1 + v, r, .fz (.int (1 + v)), .fz (.int r), by omega, (seq_nx s1).trans ((seq_nx s2).trans ((seq_nx s3).trans ?_))⟩
  have hix : eOp dIx (eVarB 7) (eOp dMod (eOp dAddU (eOp dDiv (eVarB 2) (eC (.int 54))) (eVarB 9)) (eC (.int 5))) (ρ (.fz (.int (1 + v))) (.fz (.int r))) = some (.ok (.str (nm5 ((r5 cell + k) % 5)))) := by
    refine op_ev (d := nmT) (e := .int ((cell / 54 + k) % 5)) rfl (modE (i := cell / 54 + k) (op_ev (d := .int (cell / 54)) (e := Dn k) (divE (i := cell) rfl (by decide)) rfl rfl) (by decide)) ?_
    rw [r5_add]
    exact nm5_ix _ (Nat.mod_lt _ (by decide))
  exact app_ev (i := 8) (ds := acc) (d := (S.mk (nm5 ((r5 cell + k) % 5)) (1 + v) r).d) rfl (tup_ev (n := 3) (a_cons hix (a_cons rfl (a_cons rfl rfl))) (Nat.le_refl 3)) (by omega)
theorem sp_go {ns : List Int} {first : Nat} {cell other most : Int} {third e4 e5 e12 e13 : Ent} (hm : 0 < most) : ∀ (m s : Nat) (acc : List S) (e9 e10 e11 : Ent), acc.length + m ≤ 900 →
    ∃ ss f9 f10 f11, ss.length = m ∧ (∀ t ∈ ss, 1 ≤ t.gap ∧ t.gap ≤ most ∧ -1 ≤ t.rest ∧ t.rest < t.gap) ∧ ss.map (·.nm) = (List.range' s m).map (fun k => nm5 ((r5 cell + k) % 5)) ∧
    forD (gN 9) bSp ((List.range' s m).map Dn) (roP ns first (.fz (.int cell)) (.fz (.int other)) e4 e5 (.fz (.int most)) (.fz nmT) (.ow (acc.map S.d)) e9 e10 e11 e12 e13) =
      some (.nx (roP ns first (.fz (.int cell)) (.fz (.int other)) e4 e5 (.fz (.int most)) (.fz nmT) (.ow ((acc ++ ss).map S.d)) f9 f10 f11 e12 e13))
  | 0, s, acc, e9, e10, e11, _ => ⟨[], e9, e10, e11, rfl, (fun t ht => nomatch ht), rfl, by rw [List.append_nil]; rfl⟩
  | m + 1, s, acc, e9, e10, e11, hl => by
    obtain ⟨g, r, f10, f11, hb, hs⟩ := sp_step (ns := ns) (first := first) (k := s) (cell := cell) (other := other) (third := third) (e4 := e4) (e5 := e5) (e10 := e10) (e11 := e11) (e12 := e12) (e13 := e13) (acc := acc.map S.d) hm (by rw [List.length_map]; omega)
    obtain ⟨ss, h9, h10, h11, q1, q2, q3, q4⟩ := sp_go (ns := ns) (first := first) (cell := cell) (other := other) (third := third) (e4 := e4) (e5 := e5) (e12 := e12) (e13 := e13) hm m (s + 1) (acc ++ [S.mk (nm5 ((r5 cell + s) % 5)) g r]) (.fz (Dn s)) f10 f11 (by simp; omega)
    refine ⟨S.mk (nm5 ((r5 cell + s) % 5)) g r :: ss, h9, h10, h11, by rw [List.length_cons, q1], fun t ht => ?_, ?_, ?_⟩
    · rcases List.mem_cons.mp ht with rfl | ht
      · exact hb
      · exact q2 t ht
    · rw [List.map_cons, q3, List.range'_succ, List.map_cons]
    · rw [List.range'_succ, List.map_cons]
      refine (for_cons (ρ1 := roP ns first (.fz (.int cell)) (.fz (.int other)) e4 e5 (.fz (.int most)) (.fz nmT) (.ow (acc.map S.d)) (.fz (Dn s)) e10 e11 e12 e13) rfl hs).trans ?_
      rw [List.map_append, List.map_cons, List.map_nil] at q4
      rw [q4, List.append_assoc]; rfl
theorem prodS_le {b : Nat} : ∀ (ss : List S) (n : Nat), (∀ s ∈ ss, s.gap ≤ b) → prodS n ss ≤ n * b ^ ss.length
  | [], n, _ => by show n ≤ n * 1; omega
  | s :: ss, n, h => by
    have h1 := h s List.mem_cons_self
    have h2 := prodS_le ss (n * s.gap.toNat) fun t ht => h t (List.mem_cons_of_mem _ ht)
    have h3 : n * s.gap.toNat ≤ n * b := Nat.mul_le_mul_left _ (by omega)
    have h4 : n * s.gap.toNat * b ^ ss.length ≤ n * b * b ^ ss.length := Nat.mul_le_mul_right _ h3
    show prodS (n * s.gap.toNat) ss ≤ n * b ^ (ss.length + 1)
    rw [Nat.pow_succ, Nat.mul_comm (b ^ ss.length), ← Nat.mul_assoc]
    omega
theorem pow_wk {ρ : Ro} {f : Ro → EM D} {wk : Nat} {c : Int} (hf : f ρ = some (.ok (Dn wk))) (hw : wk ≤ 900) {g : Ro → EM D} (hg : g ρ = some (.ok (.int c))) : ∃ cl : Nat, cl < 2 ^ wk ∧ eOp dMod g (eOp dShl (eC (.int 1)) f) ρ = some (.ok (.int cl)) := by
  have hp : (0 : Int) < ((2 ^ wk : Nat) : Int) := by have := Nat.pow_pos (n := wk) (show 0 < 2 by decide); omega
  have h0 := Int.emod_nonneg c (show ((2 ^ wk : Nat) : Int) ≠ 0 by omega)
  have h1 := Int.emod_lt_of_pos c hp
  refine ⟨(c % ((2 ^ wk : Nat) : Int)).toNat, by omega, ?_⟩
  rw [Int.toNat_of_nonneg h0]
  exact op_ev hg (op_ev (d := .int 1) (e := Dn wk) rfl hf (shl_one wk (by omega))) (mod_ev hp)
end K09
namespace K09
open PySem PySem.Spec PyProof.Rows L2 Tw
/-! ### data that may be told and compared -/
theorem smL_all : ∀ {ds : List D}, (∀ d ∈ ds, smD d = true) → smL ds = true
  | [], _ => by simp [smL]
  | d :: ds, h => by simp [smL, h d List.mem_cons_self, smL_all fun e he => h e (List.mem_cons_of_mem _ he)]
theorem szL_le {b : Nat} : ∀ {ds : List D}, (∀ d ∈ ds, szD d ≤ b) → szL ds ≤ b * ds.length
  | [], _ => by simp [szL]
  | d :: ds, h => by
    have h1 := h d List.mem_cons_self
    have h2 := szL_le (b := b) (ds := ds) fun e he => h e (List.mem_cons_of_mem _ he)
    simp only [szL, List.length_cons, Nat.mul_succ]
    omega
theorem dpL_le {b : Nat} : ∀ {ds : List D}, (∀ d ∈ ds, dpD d ≤ b) → dpL ds ≤ b
  | [], _ => by simp [dpL]
  | d :: ds, h => by
    have h1 := h d List.mem_cons_self
    have h2 := dpL_le (b := b) (ds := ds) fun e he => h e (List.mem_cons_of_mem _ he)
    simp only [dpL]
    omega
mutual
theorem sm_lay : ∀ d : D, smD d = true → (py d).canLay0 = true
  | .non, _ => by simp [py, PyData.canLay0]
  | .bl _, _ => by simp [py, PyData.canLay0]
  | .int _, _ => by simp [py, PyData.canLay0]
  | .str _, h => by
    simp only [smD, Bool.and_eq_true] at h
    simp only [py, PyData.canLay0]
    exact h.2.2
  | .lst xs, h => by simp only [py, PyData.canLay0]; exact sm_layL xs (by simpa [smD] using h)
  | .tup xs, h => by simp only [py, PyData.canLay0]; exact sm_layL xs (by simpa [smD] using h)
  | .obj _ _, h => by simp [smD] at h
  | .scr _, h => by simp [smD] at h
  | .ord _, h => by simp [smD] at h
theorem sm_layL : ∀ ds : List D, smL ds = true → PyData.canLayAll0 (pyL ds) = true
  | [], _ => by simp [pyL, PyData.canLayAll0]
  | d :: ds, h => by
    have h' : smD d = true ∧ smL ds = true := by simpa [smL] using h
    simp [pyL, PyData.canLayAll0, sm_lay d h'.1, sm_layL ds h'.2]
end
theorem okS_parts {d : D} (h : okS d = true) : smD d = true ∧ szD d ≤ 20000 ∧ dpD d ≤ 60 := by simpa [okS] using h
theorem okS_fit {d : D} (h : okS d = true) : fit d = true := by
  obtain ⟨h1, _, h3⟩ := okS_parts h
  show SeqAt.shaped (py d) = true
  unfold SeqAt.shaped
  rw [sm_lay d h1, decide_eq_true (by have := (py_sm d h1).2.2.2.2; omega)]; rfl
theorem ne_lst {xs : List D} (h : okS (.lst xs) = true) : dNe (.lst xs) (.lst xs) = some (.ok (.bl false)) := by
  show (if fit (.lst xs) = true ∧ fit (.lst xs) = true then ok (D.bl (!PyData.eqv (py (.lst xs)) (py (.lst xs)))) else none) = _
  rw [if_pos ⟨okS_fit h, okS_fit h⟩, SeqAt.eqv_refl _ (sm_lay _ (okS_parts h).1)]
  rfl
theorem str_lst {xs : List D} (h : okS (.lst xs) = true) : dStrU [.lst xs] = some (.ok (.str (py (.lst xs)).shown)) := by
  show (if (isSq (.lst xs) && okS (.lst xs)) = true then ok (D.str (py (.lst xs)).shown) else none) = _
  rw [if_pos (by rw [h]; rfl)]
  rfl
theorem ne_str (s : Str) : dNe (.str s) (.str s) = some (.ok (.bl false)) := by
  show some (Except.ok (D.bl (!decide (s = s)))) = _
  rw [decide_eq_true rfl]; rfl
theorem ints_sm : ∀ {is : List Int}, (∀ i ∈ is, i.natAbs < 10 ^ 12) → smL (is.map D.int) = true
  | [], _ => by simp [smL]
  | i :: is, h => by
    have h1 := h i List.mem_cons_self
    simp only [List.map_cons, smL, smD, Bool.and_eq_true, decide_eq_true_eq]
    exact ⟨h1, ints_sm fun j hj => h j (List.mem_cons_of_mem _ hj)⟩
theorem ints_sz : ∀ is : List Int, szL (is.map D.int) = is.length
  | [] => by simp [szL]
  | i :: is => by simp only [List.map_cons, szL, szD, ints_sz is, List.length_cons]; omega
theorem ints_dp : ∀ is : List Int, dpL (is.map D.int) = 0
  | [] => by simp [dpL]
  | i :: is => by simp only [List.map_cons, dpL, dpD, ints_dp is]; rfl
theorem okI_le : ∀ {is : List Int} {ps : List P}, okI is ps → Gap ps → ∀ i ∈ is, 0 ≤ i ∧ i ≤ 60
  | [], [], _, _, i, h => nomatch h
  | i :: is, p :: ps, h, hg, j, hj => by
    have hp := hg p List.mem_cons_self
    rcases List.mem_cons.mp hj with rfl | hj
    · have := h.1; omega
    · exact okI_le h.2 (fun q hq => hg q (List.mem_cons_of_mem _ hq)) j hj
theorem bhF_ok {c : Nat} : ∀ {is : List Int} {ps : List P} {s : Nat} {r : List Int}, okI is ps → Gap ps → bhF c s is ps = some r → okI r ps
  | [], [], s, r, _, _, h => by cases h; trivial
  | i :: is, p :: ps, s, r, ho, hg, h => by
    have hp := hg p List.mem_cons_self
    have hg' : Gap ps := fun q hq => hg q (List.mem_cons_of_mem _ hq)
    have h' : (if c.testBit s = true then (bhF c (s + 1) is ps).map (0 :: ·) else if i + 1 = p.gap then none else (bhF c (s + 1) is ps).map ((i + 1) :: ·)) = some r := h
    have h1 := ho.1
    split at h'
    · obtain ⟨r', hr, rfl⟩ := Option.map_eq_some_iff.mp h'
      exact ⟨by omega, bhF_ok ho.2 hg' hr⟩
    · split at h'
      · cases h'
      · obtain ⟨r', hr, rfl⟩ := Option.map_eq_some_iff.mp h'
        exact ⟨by omega, bhF_ok ho.2 hg' hr⟩
/-- a state, told -/
theorem st_sm {dy : Int} {is : List Int} {ps : List P} (h : okI is ps) (hg : Gap ps) (h8 : ps.length ≤ 8) (hd : 0 ≤ dy ∧ dy ≤ 1000) : smD (stD (.int dy) is) = true ∧ szD (stD (.int dy) is) ≤ 11 ∧ dpD (stD (.int dy) is) ≤ 2 := by
  have hl := okI_len h
  refine ⟨?_, ?_, ?_⟩
  · simp only [smD, smL, Bool.and_eq_true, decide_eq_true_eq]
    exact ⟨by omega, ints_sm fun i hi => by have := okI_le h hg i hi; omega, trivial⟩
  · simp only [szD, szL, ints_sz]; omega
  · simp only [dpD, dpL, ints_dp]; omega
theorem step_elem {ps : List P} {is : List Int} {cl dy wk : Nat} {cans : Int} {d : D} (hi : okI is ps) (hg : Gap ps) (h8 : ps.length ≤ 8) (hw : 1 ≤ wk ∧ wk ≤ 14) (h : d ∈ stepsF ps is cl dy cans wk) :
    ∃ (c dy' : Nat) (r : List Int), d = .tup [Dn c, stD (Dn dy') r] ∧ c < 256 ∧ dy' < wk ∧ okI r ps := by
  obtain ⟨c, hc, hs⟩ := List.mem_filterMap.mp h
  have h256 : 2 ^ ps.length ≤ 2 ^ 8 := Nat.pow_le_pow_right (by decide) h8
  have hc' := (List.mem_range'_1.mp hc).2
  unfold stepF at hs
  split at hs
  · obtain ⟨r, hr, rfl⟩ := Option.map_eq_some_iff.mp hs
    have m0 := Int.emod_nonneg ((dy : Int) + 1) (show (wk : Int) ≠ 0 by omega)
    have m1 := Int.emod_lt_of_pos ((dy : Int) + 1) (show (0 : Int) < wk by omega)
    refine ⟨c, (((dy : Int) + 1) % wk).toNat, r, ?_, by omega, by omega, bhF_ok hi hg hr⟩
    unfold nextD
    rw [show Dn ((((dy : Int) + 1) % wk).toNat) = .int (((dy : Int) + 1) % wk) from by show D.int _ = _; rw [Int.toNat_of_nonneg m0]]
  · cases hs
theorem steps_len {ps : List P} {is : List Int} {cl dy : Nat} {cans week : Int} (h8 : ps.length ≤ 8) : (stepsF ps is cl dy cans week).length ≤ 256 := by
  have h256 : 2 ^ ps.length ≤ 2 ^ 8 := Nat.pow_le_pow_right (by decide) h8
  have := List.length_filterMap_le (stepF ps is cl dy cans week) (List.range' 0 (2 ^ ps.length))
  rw [List.length_range'] at this
  unfold stepsF
  omega
theorem steps_ok {ps : List P} {is : List Int} {cl dy wk : Nat} {cans : Int} (hi : okI is ps) (hg : Gap ps) (h8 : ps.length ≤ 8) (hw : 1 ≤ wk ∧ wk ≤ 14) : okS (.lst (stepsF ps is cl dy cans wk)) = true := by
  have key : ∀ d ∈ stepsF ps is cl dy cans wk, smD d = true ∧ szD d ≤ 13 ∧ dpD d ≤ 3 := fun d hd => by
    obtain ⟨c, dy', r, rfl, hc, hdy, hr⟩ := step_elem hi hg h8 hw hd
    obtain ⟨a1, a2, a3⟩ := st_sm (dy := dy') hr hg h8 (by omega)
    have b1 : smD (Dn c) = true := by simp only [smD, decide_eq_true_eq]; omega
    refine ⟨?_, ?_, ?_⟩
    · simp only [smD, smL] at a1 b1 ⊢
      rw [a1, b1]; rfl
    · simp only [szD, szL] at a2 ⊢; omega
    · simp only [dpD, dpL] at a3 ⊢; omega
  have h1 := smL_all fun d hd => (key d hd).1
  have h2 := szL_le (b := 13) fun d hd => (key d hd).2.1
  have h3 := dpL_le (b := 3) fun d hd => (key d hd).2.2
  have h4 : (stepsF ps is cl dy cans wk).length ≤ 256 := steps_len h8
  show (smL _ && (decide (szL _ + 1 ≤ 20000) && decide (dpL _ + 1 ≤ 60))) = true
  rw [h1, decide_eq_true (by omega), decide_eq_true (by omega)]; rfl
end K09
namespace K09
open PySem PySem.Spec PyProof.Rows L2 Tw
/-! ### gardens with other cans, other gaps -/
theorem namesS_pre : ∀ (a b : List Str) (ks r : List (Str × Int)), namesS (a ++ b) ks = some r → ∃ r', namesS a ks = some r'
  | [], b, ks, r, _ => ⟨ks, rfl⟩
  | s :: a, b, ks, r, h => by
    rw [List.cons_append] at h
    unfold namesS at h ⊢
    split at h
    · cases h
    · rename_i hn
      rw [if_neg hn]
      exact namesS_pre a b _ r h
/-- the names' dict: their places -/
theorem namesS_is : ∀ (l : List Str) (ks r : List (Str × Int)), namesS l ks = some r → (∀ s ∈ l, hasN ks s = false) ∧ ∃ t, r = ks ++ t ∧ t.map (·.1) = l ∧ ∀ (k : Nat) p, t[k]? = some p → p.2 = ((ks.length + k : Nat) : Int)
  | [], ks, r, h => by cases (Option.some.inj h); exact ⟨(fun s hs => nomatch hs), [], by rw [List.append_nil], rfl, fun k p hp => by simp at hp⟩
  | s :: l, ks, r, h => by
    unfold namesS at h
    split at h
    · cases h
    · rename_i hn
      have hn' : hasN ks s = false := by simpa using hn
      obtain ⟨h1, t, rfl, ht, hi⟩ := namesS_is l _ r h
      refine ⟨fun u hu => ?_, (s, (ks.length : Int)) :: t, by rw [List.append_assoc]; rfl, by rw [List.map_cons, ht], fun k p hp => ?_⟩
      · rcases List.mem_cons.mp hu with rfl | hu
        · exact hn'
        · have := h1 u hu
          unfold hasN at this ⊢
          rw [List.any_append, Bool.or_eq_false_iff] at this
          exact this.1
      · cases k with
        | zero => cases hp; rfl
        | succ k =>
          have := hi k p hp
          rw [List.length_append, List.length_singleton] at this
          rw [this]
          congr 1
          omega
theorem names_ord {l : List Str} {ks : List (Str × Int)} (h : namesS l [] = some ks) : ks.map (·.1) = l ∧ (∀ (k : Nat) s, l[k]? = some s → ks[k]? = some (s, (k : Int))) ∧ l.Nodup := by
  obtain ⟨_, t, e, ht, hi⟩ := namesS_is l [] ks h
  rw [List.nil_append] at e
  rw [← e] at ht hi
  refine ⟨ht, fun k s hs => ?_, ?_⟩
  · rw [← ht, List.getElem?_map] at hs
    cases hk : ks[k]? with
    | none => rw [hk] at hs; cases hs
    | some p =>
      rw [hk] at hs
      have h1 : p.1 = s := Option.some.inj hs
      have h2 := hi k p hk
      simp at h2
      rw [← h1, ← h2]
  · clear hi ht
    have key : ∀ (l : List Str) (ks r : List (Str × Int)), namesS l ks = some r → l.Nodup := by
      intro l
      induction l with
      | nil => intro _ _ _; exact List.nodup_nil
      | cons s l ih =>
        intro ks r h
        unfold namesS at h
        split at h
        · cases h
        · refine List.nodup_cons.mpr ⟨fun hm => ?_, ih _ _ h⟩
          have := (namesS_is l _ r h).1 s hm
          unfold hasN at this
          rw [List.any_append, Bool.or_eq_false_iff] at this
          simp at this
    exact key l [] ks h
section
variable {ss : List S} {cans : Int} {wk cl : Nat} {ks : List (Str × Int)}
theorem mk_garden (h : Sok ss cans wk cl) (hk : namesS (ss.map (·.nm)) [] = some ks) : dDef 4 [] (dMake mi_Garden .garden) [.lst ((ss.map S.p).map P.d), .int cans, .int wk, .int cl] = some (.ok (gdD (ss.map S.p) cans wk cl ks)) := by
  have hks : namesGo ((ss.map S.p).map P.d) [] = some (some ks) := by
    rw [namesGo_nm, List.map_map]
    exact congrArg some hk
  exact (def_all rfl).trans (make_ok (garden_ok (ps := ss.map S.p) (cans := cans) (week := wk) (closed := cl) (ks := ks) (by rw [List.length_map]; exact h.n1) (by rw [List.length_map]; exact h.n8) h.cn ⟨by have := h.w.1; omega, by have := h.w.2; omega⟩ (by omega) (closed_z h.c) hks h.gap (by rw [h.size]; have := h.z; omega)))
theorem Sok.withC (h : Sok ss cans wk cl) {c : Int} (hc : 0 ≤ c ∧ c ≤ 8) : Sok ss c wk cl := { h with cn := hc }
theorem Sok.take (h : Sok ss cans wk cl) {m : Nat} (hm : 1 ≤ m) : Sok (ss.take m) cans wk cl := by
  have hsub : ∀ s ∈ ss.take m, s ∈ ss := fun s hs => List.mem_of_mem_take hs
  have hd := List.take_append_drop m ss
  refine ⟨by rw [List.length_take]; have := h.n1; omega, by rw [List.length_take]; have := h.n8; omega, fun s hs => h.g s (hsub s hs), fun s hs => h.nm s (hsub s hs), ?_, h.cn, h.w, h.c, ?_⟩
  · obtain ⟨ks, hk⟩ := h.ks
    rw [← hd, List.map_append] at hk
    exact namesS_pre _ _ _ _ hk
  · have h1 : prodS 1 (ss.take m) ≤ prodS 1 ss := by
      have key : ∀ (a b : List S) (n : Nat), (∀ s ∈ b, 1 ≤ s.gap) → prodS n a ≤ prodS n (a ++ b) := by
        intro a
        induction a with
        | nil => intro b n hb; exact prodS_ge b n hb
        | cons s a ih => intro b n hb; exact ih b (n * s.gap.toNat) hb
      have := key (ss.take m) (ss.drop m) 1 (fun s hs => h.g1 s (List.mem_of_mem_drop hs))
      rw [hd] at this
      exact this
    have h2 : wk * prodS 1 (ss.take m) ≤ wk * prodS 1 ss := Nat.mul_le_mul_left _ h1
    have := h.z
    omega
/-- one pot with another gap -/
def regap (ss : List S) (k : Nat) (g : Int) : List S := match ss[k]? with
  | some s => ss.set k ⟨s.nm, g, s.rest⟩
  | none => ss
theorem regap_nm (k : Nat) (g : Int) : (regap ss k g).map (·.nm) = ss.map (·.nm) := by
  unfold regap
  cases e : ss[k]? with
  | none => rfl
  | some s =>
    show (ss.set k ⟨s.nm, g, s.rest⟩).map (·.nm) = _
    rw [List.map_set]
    apply List.ext_getElem?
    intro j
    rw [List.getElem?_set]
    by_cases hj : k = j
    · subst hj
      have hl := (List.getElem?_eq_some_iff.mp e).1
      rw [if_pos rfl, if_pos (by rw [List.length_map]; exact hl), List.getElem?_map, e]
      rfl
    · rw [if_neg hj]
theorem prodS_set : ∀ (ss : List S) (k : Nat) (s t : S) (n : Nat), ss[k]? = some s → prodS n (ss.set k t) * s.gap.toNat = prodS n ss * t.gap.toNat
  | [], k, s, t, n, h => by simp at h
  | a :: ss, 0, s, t, n, h => by
    cases h
    show prodS (n * t.gap.toNat) ss * a.gap.toNat = prodS (n * a.gap.toNat) ss * t.gap.toNat
    rw [prodS_mul ss (n * t.gap.toNat), prodS_mul ss (n * a.gap.toNat)]
    simp only [Nat.mul_assoc, Nat.mul_comm, Nat.mul_left_comm]
  | a :: ss, k + 1, s, t, n, h => by
    rw [List.set_cons_succ]
    exact prodS_set ss k s t (n * a.gap.toNat) h
theorem Sok.regap (h : Sok ss cans wk cl) {k : Nat} {s : S} {g : Int} (hs : ss[k]? = some s) (hg : 1 ≤ g ∧ g ≤ 60 ∧ s.rest < g) (hz : wk * prodS 1 (K09.regap ss k g) ≤ 20000) : Sok (K09.regap ss k g) cans wk cl := by
  have er : K09.regap ss k g = ss.set k ⟨s.nm, g, s.rest⟩ := by unfold K09.regap; rw [hs]
  have hmem : ∀ t ∈ K09.regap ss k g, t ∈ ss ∨ t = ⟨s.nm, g, s.rest⟩ := fun t ht => by
    rw [er] at ht
    exact List.mem_or_eq_of_mem_set ht
  have hlen : (K09.regap ss k g).length = ss.length := by rw [er, List.length_set]
  refine ⟨by rw [hlen]; exact h.n1, by rw [hlen]; exact h.n8, fun t ht => ?_, fun t ht => ?_, by rw [regap_nm]; exact h.ks, h.cn, h.w, h.c, hz⟩
  · rcases hmem t ht with q | q
    · exact h.g t q
    · rw [q]
      have := h.g s (List.mem_of_getElem? hs)
      exact ⟨hg.1, hg.2.1, this.2.2.1, hg.2.2⟩
  · rcases hmem t ht with q | q
    · exact h.nm t q
    · rw [q]; exact h.nm s (List.mem_of_getElem? hs)
theorem set_dp {k : Nat} {s : S} {g : Int} (hs : ss[k]? = some s) : ((ss.map S.p).map P.d).set k ((S.mk s.nm g s.rest).p.d) = ((K09.regap ss k g).map S.p).map P.d := by
  have er : K09.regap ss k g = ss.set k ⟨s.nm, g, s.rest⟩ := by unfold K09.regap; rw [hs]
  rw [er, List.map_set, List.map_set]
end
end K09
namespace K09
open PySem PySem.Spec PyProof.Rows L2 Tw
/-! ### refusals; whether a garden is as told -/
theorem op_er {h : D → D → EM D} {f g : Ro → EM D} {ρ : Ro} {d : D} {y : Xn} (h1 : f ρ = some (.ok d)) (h2 : g ρ = some (.error y)) : eOp h f g ρ = some (.error y) := by
  unfold eOp
  rw [h1, bnd_ok, h2]; rfl
def nmq (j : Nat) : Str := ["ivyq", "ivq", "fernq", "fernzq", "aq"].getD j ""
theorem nmq_ev (j : Nat) (h : j < 5) : dAddU (.str (nm5 j)) (.str "q") = some (.ok (.str (nmq j))) := by
  match j, h with
  | 0, _ => kernel_rfl
  | 1, _ => kernel_rfl
  | 2, _ => kernel_rfl
  | 3, _ => kernel_rfl
  | 4, _ => kernel_rfl
theorem nmq_ne (i j : Nat) (hi : i < 5) (hj : j < 5) : nm5 i ≠ nmq j := by
  have : ∀ i j : Fin 5, nm5 i.val ≠ nmq j.val := by decide +kernel
  exact this ⟨i, hi⟩ ⟨j, hj⟩
theorem nm5_sm (j : Nat) (h : j < 5) : smD (.str (nm5 j)) = true := by
  match j, h with
  | 0, _ => decide +kernel
  | 1, _ => decide +kernel
  | 2, _ => decide +kernel
  | 3, _ => decide +kernel
  | 4, _ => decide +kernel
theorem eq_tup {xs : List D} (h : okS (.tup xs) = true) : dEq (.tup xs) (.tup xs) = some (.ok (.bl true)) ∧ dNe (.tup xs) (.tup xs) = some (.ok (.bl false)) := by
  refine ⟨?_, ?_⟩
  · show (if fit (.tup xs) = true ∧ fit (.tup xs) = true then ok (D.bl (PyData.eqv (py (.tup xs)) (py (.tup xs)))) else none) = _
    rw [if_pos ⟨okS_fit h, okS_fit h⟩, SeqAt.eqv_refl _ (sm_lay _ (okS_parts h).1)]
    rfl
  · show (if fit (.tup xs) = true ∧ fit (.tup xs) = true then ok (D.bl (!PyData.eqv (py (.tup xs)) (py (.tup xs)))) else none) = _
    rw [if_pos ⟨okS_fit h, okS_fit h⟩, SeqAt.eqv_refl _ (sm_lay _ (okS_parts h).1)]
    rfl
theorem ok3 {a b c : Int} (ha : a.natAbs < 10 ^ 12) (hb : b.natAbs < 10 ^ 12) (hc : c.natAbs < 10 ^ 12) : okS (.tup [.int a, .int b, .int c]) = true := by
  show ((decide (a.natAbs < 10 ^ 12) && (decide (b.natAbs < 10 ^ 12) && (decide (c.natAbs < 10 ^ 12) && true))) && (decide (1 + (1 + (1 + 0)) + 1 ≤ 20000) && decide (max 0 (max 0 (max 0 0)) + 1 ≤ 60))) = true
  rw [decide_eq_true ha, decide_eq_true hb, decide_eq_true hc]; rfl
section
variable {ss : List S} {cans : Int} {wk cl : Nat} {ks : List (Str × Int)}
/-- names of the law's -/
def Nm (ss : List S) : Prop := ∀ s ∈ ss, ∃ j, j < 5 ∧ s.nm = nm5 j
theorem pots_ok (h : ∀ s ∈ ss, 1 ≤ s.gap ∧ s.gap ≤ 60 ∧ -1 ≤ s.rest ∧ s.rest < s.gap) (hn : Nm ss) (h8 : ss.length ≤ 8) : okS (.lst (ss.map S.d)) = true := by
  have key : ∀ d ∈ ss.map S.d, smD d = true ∧ szD d ≤ 4 ∧ dpD d ≤ 1 := fun d hd => by
    obtain ⟨s, hs, rfl⟩ := List.mem_map.mp hd
    obtain ⟨j, hj, e⟩ := hn s hs
    have hb := h s hs
    have h1 := nm5_sm j hj
    rw [← e] at h1
    refine ⟨?_, ?_, ?_⟩
    · show (smD (.str s.nm) && (decide (s.gap.natAbs < 10 ^ 12) && (decide (s.rest.natAbs < 10 ^ 12) && true))) = true
      rw [h1, decide_eq_true (by omega), decide_eq_true (by omega)]; rfl
    · show 1 + (1 + (1 + 0)) + 1 ≤ 4; omega
    · show max 0 (max 0 (max 0 0)) + 1 ≤ 1; omega
  have k1 := smL_all fun d hd => (key d hd).1
  have k2 := szL_le (b := 4) fun d hd => (key d hd).2.1
  have k3 := dpL_le (b := 1) fun d hd => (key d hd).2.2
  rw [List.length_map] at k2
  show (smL _ && (decide (szL _ + 1 ≤ 20000) && decide (dpL _ + 1 ≤ 60))) = true
  rw [k1, decide_eq_true (by omega), decide_eq_true (by omega)]; rfl
end
end K09
namespace K09
open PySem PySem.Spec PyProof.Rows L2 Tw
/-! ### texts: split, join -/
def ch (x : Str) : List Nat := x.cps.toList
theorem ch_inj {a b : Str} (h : ch a = ch b) : a = b := by
  obtain ⟨a⟩ := a
  obtain ⟨b⟩ := b
  have : a = b := Array.toList_inj.mp h
  rw [this]
theorem ch_app (a b : Str) : ch (a ++ b) = ch a ++ ch b := by
  show (a.cps ++ b.cps).toList = _
  rw [Array.toList_append]
  rfl
def jn (s : List Nat) : List (List Nat) → List Nat
  | [] => []
  | [x] => x
  | x :: y :: r => x ++ s ++ jn s (y :: r)
theorem ch_join (s : Str) : ∀ l : List Str, ch (Str.join s l) = jn (ch s) (l.map ch)
  | [] => rfl
  | [x] => rfl
  | x :: y :: r => by
    show ch (x ++ s ++ Str.join s (y :: r)) = ch x ++ ch s ++ jn (ch s) ((y :: r).map ch)
    rw [ch_app, ch_app, ch_join s (y :: r)]
theorem cut_one {c : Nat} : ∀ {x y u v : List Nat}, c ∉ x → c ∉ y → x ++ c :: u = y ++ c :: v → x = y ∧ u = v
  | [], [], u, v, _, _, h => ⟨rfl, by injection h⟩
  | [], b :: y, u, v, _, hy, h => by
    injection h with h1 _
    exact absurd (h1 ▸ List.mem_cons_self) hy
  | a :: x, [], u, v, hx, _, h => by
    injection h with h1 _
    exact absurd (h1 ▸ List.mem_cons_self) hx
  | a :: x, b :: y, u, v, hx, hy, h => by
    injection h with h1 h2
    obtain ⟨e1, e2⟩ := cut_one (fun z => hx (List.mem_cons_of_mem _ z)) (fun z => hy (List.mem_cons_of_mem _ z)) h2
    exact ⟨by rw [h1, e1], e2⟩
theorem jn_inj {c : Nat} : ∀ {a b : List (List Nat)}, a ≠ [] → b ≠ [] → (∀ p ∈ a, c ∉ p) → (∀ p ∈ b, c ∉ p) → jn [c] a = jn [c] b → a = b
  | [], _, h, _, _, _, _ => absurd rfl h
  | _ :: _, [], _, h, _, _, _ => absurd rfl h
  | [x], [y], _, _, _, _, h => by
    have h : x = y := h
    rw [h]
  | [x], y :: z :: b, _, _, ha, hb, h => by
    have h : x = y ++ [c] ++ jn [c] (z :: b) := h
    have : c ∈ x := by rw [h]; simp
    exact absurd this (ha x List.mem_cons_self)
  | x :: w :: a, [y], _, _, ha, hb, h => by
    have h : x ++ [c] ++ jn [c] (w :: a) = y := h
    have : c ∈ y := by rw [← h]; simp
    exact absurd this (hb y List.mem_cons_self)
  | x :: w :: a, y :: z :: b, _, _, ha, hb, h => by
    have h : x ++ [c] ++ jn [c] (w :: a) = y ++ [c] ++ jn [c] (z :: b) := h
    rw [List.append_assoc, List.append_assoc] at h
    obtain ⟨e1, e2⟩ := cut_one (ha x List.mem_cons_self) (hb y List.mem_cons_self) (show x ++ c :: jn [c] (w :: a) = y ++ c :: jn [c] (z :: b) from h)
    rw [e1, jn_inj (a := w :: a) (b := z :: b) (by simp) (by simp) (fun p hp => ha p (List.mem_cons_of_mem _ hp)) (fun p hp => hb p (List.mem_cons_of_mem _ hp)) e2]
theorem map_inj {f : Str → List Nat} (hf : ∀ a b, f a = f b → a = b) : ∀ {l m : List Str}, l.map f = m.map f → l = m
  | [], [], _ => rfl
  | [], _ :: _, h => by cases h
  | _ :: _, [], h => by cases h
  | a :: l, b :: m, h => by
    rw [List.map_cons, List.map_cons] at h
    injection h with h1 h2
    rw [hf a b h1, map_inj hf h2]
theorem split_of {c : Nat} {x : Str} {ps : List Str} (hne : ps ≠ []) (hf : ∀ p ∈ ps, c ∉ ch p) (hj : ch x = jn [c] (ps.map ch)) : Txt.split x ⟨#[c]⟩ = ps := by
  refine map_inj (f := ch) (fun a b => ch_inj) (jn_inj (c := c) ?_ (by simpa using hne) ?_ ?_ ?_)
  · have := split_pos x ⟨#[c]⟩
    intro z
    have : (Txt.split x ⟨#[c]⟩).length = 0 := by rw [← List.length_map (f := ch), z]; rfl
    omega
  · intro p hp
    obtain ⟨q, hq, rfl⟩ := List.mem_map.mp hp
    exact StrLaws.split_free x c q hq
  · intro p hp
    obtain ⟨q, hq, rfl⟩ := List.mem_map.mp hp
    exact hf q hq
  · rw [← hj]
    exact (ch_join ⟨#[c]⟩ _).symm.trans (by rw [StrLaws.join_split])
theorem split_join {c : Nat} {ps : List Str} (hne : ps ≠ []) (hf : ∀ p ∈ ps, c ∉ ch p) : Txt.split (Txt.join ⟨#[c]⟩ ps) ⟨#[c]⟩ = ps :=
  split_of hne hf (by rw [show Txt.join ⟨#[c]⟩ ps = Str.join ⟨#[c]⟩ ps from StrLaws.glued_eq_join _ _]; exact ch_join _ _)
/-- a row's words -/
def Wd (s : List Nat) (ws : List (List Nat)) : Prop := ∃ ps : List (List Nat), ps ≠ [] ∧ (∀ p ∈ ps, 32 ∉ p) ∧ jn [32] ps = s ∧ ps.filter (fun p => decide (p ≠ [])) = ws
theorem wd_nil : Wd [] [] := ⟨[[]], by simp, fun p hp => by rw [List.mem_singleton.mp hp]; simp, rfl, rfl⟩
theorem wd_sp {s : List Nat} {ws : List (List Nat)} (h : Wd s ws) : Wd (32 :: s) ws := by
  obtain ⟨ps, h1, h2, h3, h4⟩ := h
  refine ⟨[] :: ps, by simp, fun p hp => ?_, ?_, ?_⟩
  · rcases List.mem_cons.mp hp with rfl | hp
    · simp
    · exact h2 p hp
  · cases ps with
    | nil => exact absurd rfl h1
    | cons p r => show [] ++ [32] ++ jn [32] (p :: r) = _; rw [h3]; rfl
  · rw [List.filter_cons]; exact h4
theorem wd_sps {s : List Nat} {ws : List (List Nat)} (h : Wd s ws) : ∀ n, Wd (List.replicate n 32 ++ s) ws
  | 0 => h
  | n + 1 => wd_sp (wd_sps h n)
theorem wd_one {w : List Nat} (hf : 32 ∉ w) (hn : w ≠ []) : Wd w [w] := ⟨[w], by simp, fun p hp => by rw [List.mem_singleton.mp hp]; exact hf, rfl, by rw [List.filter_cons, decide_eq_true hn]; rfl⟩
theorem wd_cons {w s : List Nat} {ws : List (List Nat)} (hf : 32 ∉ w) (hn : w ≠ []) (h : Wd s ws) : Wd (w ++ 32 :: s) (w :: ws) := by
  obtain ⟨ps, h1, h2, h3, h4⟩ := h
  refine ⟨w :: ps, by simp, fun p hp => ?_, ?_, ?_⟩
  · rcases List.mem_cons.mp hp with rfl | hp
    · exact hf
    · exact h2 p hp
  · cases ps with
    | nil => exact absurd rfl h1
    | cons p r => show w ++ [32] ++ jn [32] (p :: r) = _; rw [h3, List.append_assoc]; rfl
  · rw [List.filter_cons, decide_eq_true hn, h4]; rfl
/-- words with blanks between, behind -/
theorem wd_jn {g b : Nat} (hg : 1 ≤ g) : ∀ {ws : List (List Nat)}, (∀ w ∈ ws, 32 ∉ w ∧ w ≠ []) → Wd (jn (List.replicate g 32) ws ++ List.replicate b 32) ws
  | [], _ => by
    have := wd_sps wd_nil b
    rwa [List.append_nil] at this
  | [w], h => by
    obtain ⟨h1, h2⟩ := h w List.mem_cons_self
    show Wd (w ++ List.replicate b 32) [w]
    cases b with
    | zero => rw [List.replicate_zero, List.append_nil]; exact wd_one h1 h2
    | succ b =>
      have := wd_cons h1 h2 (wd_sps wd_nil b)
      rwa [List.append_nil] at this
  | w :: v :: ws, h => by
    obtain ⟨h1, h2⟩ := h w List.mem_cons_self
    have ih := wd_jn (b := b) hg (ws := v :: ws) fun x hx => h x (List.mem_cons_of_mem _ hx)
    obtain ⟨k, rfl⟩ : ∃ k, g = k + 1 := ⟨g - 1, by omega⟩
    have := wd_cons h1 h2 (wd_sps ih k)
    show Wd (w ++ List.replicate (k + 1) 32 ++ jn (List.replicate (k + 1) 32) (v :: ws) ++ List.replicate b 32) _
    rw [List.append_assoc, List.append_assoc, List.replicate_succ]
    exact this
end K09
namespace K09
open PySem PySem.Spec PyProof.Rows L2 Tw
def dO : Option Nat → D
  | none => .non
  | some c => Dn c
theorem in_non : ∀ os : List (Option Nat), ((pyL (os.map dO)).any fun z => PyData.eqv z .none) = os.any Option.isNone
  | [] => rfl
  | o :: os => by
    show (PyData.eqv (py (dO o)) .none || (pyL (os.map dO)).any fun z => PyData.eqv z .none) = (o.isNone || os.any Option.isNone)
    rw [in_non os]
    congr 1
    cases o with
    | none => simp [dO, py, PyData.eqv]
    | some c => simp [dO, py, PyData.eqv]
theorem dO_lay : ∀ os : List (Option Nat), PyData.canLayAll0 (pyL (os.map dO)) = true ∧ PyData.depthAll (pyL (os.map dO)) = 0
  | [] => by simp [pyL, PyData.canLayAll0, PyData.depthAll]
  | o :: os => by
    obtain ⟨h1, h2⟩ := dO_lay os
    cases o with
    | none => simp [dO, pyL, py, PyData.canLayAll0, PyData.canLay0, PyData.depthAll, PyData.depth, h1, h2]
    | some c => simp [dO, pyL, py, PyData.canLayAll0, PyData.canLay0, PyData.depthAll, PyData.depth, h1, h2]
theorem fit_dO (os : List (Option Nat)) : fit (.lst (os.map dO)) = true := by
  obtain ⟨h1, h2⟩ := dO_lay os
  show SeqAt.shaped (.list (pyL (os.map dO))) = true
  unfold SeqAt.shaped
  simp [PyData.canLay0, PyData.depth, h1, h2]
theorem fit_non : fit .non = true := by
  show SeqAt.shaped .none = true
  unfold SeqAt.shaped
  simp [PyData.canLay0, PyData.depth]
theorem dIn_non (os : List (Option Nat)) : dIn .non (.lst (os.map dO)) = some (.ok (.bl (os.any Option.isNone))) := by
  show (if fit .non = true ∧ fit (.lst (os.map dO)) = true then ok (D.bl ((pyL (os.map dO)).any fun z => PyData.eqv z (py .non))) else none) = _
  rw [if_pos ⟨fit_non, fit_dO os⟩, show py .non = PyData.none from by simp [py], in_non]
  rfl
/-! ### numbers written, read -/
def sN (n : Nat) : Str := (toString (n : Int) : String)
theorem str_ev {ρ : Ro} {f : Ro → EM D} {n : Nat} (h : f ρ = some (.ok (Dn n))) (hn : n < 1000) : eCall dStr (aCons f aNil) ρ = some (.ok (.str (sN n))) := by
  refine call_ev (ds := [Dn n]) (a_cons h rfl) ?_
  show (if (n : Int).natAbs.log2 < 1920 then ok (D.str ((toString (n : Int) : String) : Str)) else none) = _
  have : (n : Int).natAbs.log2 < 1920 := by
    by_cases z : (n : Int).natAbs = 0
    · rw [z]; decide
    · exact (Nat.log2_lt z).mpr (Nat.lt_of_lt_of_le (show (n : Int).natAbs < 2 ^ 10 by omega) (Nat.pow_le_pow_right (by decide) (by decide)))
  rw [if_pos this]
  rfl
def isRI (o : Option Out) (i : Int) : Bool := match o with
  | some (.ret (.int j)) => decide (j = i)
  | _ => false
theorem isRI_is {o : Option Out} {i : Int} (h : isRI o i = true) : o = some (.ret (.int i)) := by
  unfold isRI at h
  split at h
  · rw [of_decide_eq_true h]
  · cases h
theorem num_all : (List.range 100).all (fun n => isRI (m_number_in [.str (sN n)]) n) = true := by decide +kernel
theorem num_in {n : Nat} (h : n < 100) : m_number_in [.str (sN n)] = some (.ret (Dn n)) := isRI_is (List.all_eq_true.mp num_all n (List.mem_range.mpr h))
theorem sN_all : (List.range 100).all (fun n => !(ch (sN n)).contains 32 && (!(ch (sN n)).contains 10 && (!(ch (sN n)).isEmpty && decide ((sN n).length ≤ 2)))) = true := by decide +kernel
theorem sN_ok {n : Nat} (h : n < 100) : 32 ∉ ch (sN n) ∧ 10 ∉ ch (sN n) ∧ ch (sN n) ≠ [] ∧ (sN n).length ≤ 2 := by
  have := List.all_eq_true.mp sN_all n (List.mem_range.mpr h)
  simpa using this
theorem nm_all : (List.range 5).all (fun j => !(ch (nm5 j)).contains 32 && (!(ch (nm5 j)).contains 10 && (!(ch (nm5 j)).isEmpty && (decide ((nm5 j).length ≤ 5))))) = true := by decide +kernel
theorem nm_ok {j : Nat} (h : j < 5) : 32 ∉ ch (nm5 j) ∧ 10 ∉ ch (nm5 j) ∧ ch (nm5 j) ≠ [] ∧ (nm5 j).length ≤ 5 := by
  have := List.all_eq_true.mp nm_all j (List.mem_range.mpr h)
  simpa using this
/-! ### words -/
theorem sp_is : (" " : Str) = ⟨#[32]⟩ := by decide +kernel
theorem nl_is : ("\n" : Str) = ⟨#[10]⟩ := by decide +kernel
theorem sizeL : sizeLine = 16777216 := sizeLine_eq
theorem mt_ev {h : D → List D → EM D} {g : Ro → EM D} {fs : Ro → EM (List D)} {ρ : Ro} {z : Str} {ds : List D} {r : EM D} (h1 : g ρ = some (.ok (.str z))) (h2 : fs ρ = some (.ok ds)) (h3 : h (.str z) ds = r) : eMt h g fs ρ = r := by
  unfold eMt
  rw [h1, bnd_ok]
  dsimp only
  rw [h2, bnd_ok, h3]
theorem split_ev {a : Str} {c : Nat} (ha : a.length ≤ 100000) : dSplit (.str a) [.str ⟨#[c]⟩] = some (.ok (.lst ((Txt.split a ⟨#[c]⟩).map D.str))) := by
  show (if ((1 != 0) && decide (a.length + 2 ≤ sizeLine)) = true then ok (D.lst ((Txt.split a ⟨#[c]⟩).map D.str)) else none) = _
  rw [decide_eq_true (by rw [sizeL]; omega)]
  rfl
theorem words_is {x : Str} {ws : List Str} (h : Wd (ch x) (ws.map ch)) (hx : x.length ≤ 10000) : m_words_of [.str x] = some (.ret (.lst (ws.map D.str))) := by
  obtain ⟨ps, h1, h2, h3, h4⟩ := h
  obtain ⟨qs, hq⟩ : ∃ qs : List Str, qs.map ch = ps := ⟨ps.map fun l => ⟨l.toArray⟩, by
    rw [List.map_map]
    conv => rhs; rw [← List.map_id ps]
    exact List.map_congr_left fun l _ => rfl⟩
  have hs : Txt.split x ⟨#[32]⟩ = qs := split_of (fun z => h1 (by rw [← hq, z]; rfl)) (fun p hp => h2 (ch p) (by rw [← hq]; exact List.mem_map.mpr ⟨p, hp, rfl⟩)) (by rw [hq, h3])
  have hlen : qs.length ≤ x.length + 2 := by rw [← hs]; exact split_le x _
  have hb : ∀ z : Str, (decide (ch z ≠ [])) = !decide (z = ("" : Str)) := fun z => by
    have : (z = ("" : Str)) ↔ ch z = [] := ⟨fun e => by rw [e]; rfl, fun e => ch_inj (by rw [e]; rfl)⟩
    rw [← decide_not]
    exact decide_eq_decide.mpr (not_congr this.symm)
  have hf : qs.filter (fun z => !decide (z = ("" : Str))) = ws := by
    refine map_inj (f := ch) (fun a b => ch_inj) ?_
    rw [← h4, ← hq, List.filter_map]
    congr 1
    refine List.filter_congr fun z _ => ?_
    exact (hb z).symm
  refine run_ret (ret_ev (lc_ev (ds := qs.map D.str) (iof_ev (mt_ev (z := x) (ds := [.str ⟨#[32]⟩]) rfl (a_cons (by rw [← sp_is]; rfl) rfl) ((split_ev (by omega)).trans (by rw [hs])))) (ys := ws.map D.str) ?_ ?_))
  · rw [lc_filter (b := fun d => match d with | .str z => !decide (z = ("" : Str)) | _ => true) (F := id)]
    · rw [List.map_id, List.filter_map, ← hf]
      rfl
    · intro d hd
      obtain ⟨z, _, rfl⟩ := List.mem_map.mp hd
      exact ⟨[.fz (.str x), .fz (.str z)], rfl, bT_ev (op_ev (d := .str z) (e := .str "") rfl rfl rfl), rfl⟩
  · rw [List.length_map, ← hf]
    have := List.length_filter_le (fun z => !decide (z = ("" : Str))) qs
    omega
/-! ### a pot's row -/
theorem nums_ev {ρ : Ro} {f : Ro → EM (List D)} {i : Nat} {ns : List Nat} (h : f ρ = some (.ok ((ns.map sN).map D.str))) (hn : ∀ n ∈ ns, n < 100) (hl : ns.length ≤ 1000) (hg : ∀ d : D, ∃ ρ1, gN i d (wipeE ρ [i]) = some ρ1 ∧ eVar i ρ1 = some (.ok d)) :
    eLc [i] (gN i) f bYes (eCall (dDef 1 [] (dCall m_number_in)) (aCons (eVar i) aNil)) ρ = some (.ok (.lst (ns.map Dn))) := by
  refine lc_ev (ds := (ns.map sN).map D.str) h ?_ (by rw [List.length_map]; omega)
  have key : ∀ l : List Nat, (∀ n ∈ l, n < 100) → lcD (gN i) bYes (eCall (dDef 1 [] (dCall m_number_in)) (aCons (eVar i) aNil)) (wipeE ρ [i]) ((l.map sN).map D.str) = some (l.map Dn) := fun l => by
    induction l with
    | nil => exact fun _ => rfl
    | cons n l ih =>
      intro hn
      obtain ⟨ρ1, g1, g2⟩ := hg (.str (sN n))
      rw [List.map_cons, List.map_cons]
      unfold lcD
      rw [g1]
      dsimp only
      rw [show bYes ρ1 = some (.ok true) from rfl]
      dsimp only
      rw [call_ev (f := dDef 1 [] (dCall m_number_in)) (fs := aCons (eVar i) aNil) (ds := [.str (sN n)]) (a_cons g2 rfl) ((def_all rfl).trans (call_ret (num_in (hn n List.mem_cons_self))))]
      dsimp only
      rw [ih fun x hx => hn x (List.mem_cons_of_mem _ hx)]
      rfl
  exact key ns hn
theorem none_in (ns : List Nat) : dIn .non (.lst (ns.map Dn)) = some (.ok (.bl false)) := by
  have := dIn_non (ns.map some)
  rw [List.map_map] at this
  have e : (dO ∘ some : Nat → D) = Dn := rfl
  rw [e] at this
  rw [this]
  have key : ∀ l : List Nat, (l.map some).any Option.isNone = false := fun l => by
    induction l with
    | nil => rfl
    | cons n l ih => exact ih
  rw [key]
def potW (s : S) : List Str := if s.rest < 0 then ["pot", s.nm, sN s.gap.toNat] else ["cactus", s.nm, sN s.gap.toNat, sN s.rest.toNat]
theorem potin_is {s : S} (hg : 1 ≤ s.gap ∧ s.gap ≤ 60 ∧ -1 ≤ s.rest ∧ s.rest < s.gap) (hn : m_is_name [.str s.nm] = some (.ret (.bl true))) : m_pot_in [.lst ((potW s).map D.str)] = some (.ret s.p.d) := by
  have eg : ((s.gap.toNat : Nat) : Int) = s.gap := Int.toNat_of_nonneg (by omega)
  unfold potW S.p P.d
  by_cases z : s.rest < 0
  · rw [if_pos z, if_pos z]
    let ws : D := .lst [.str "pot", .str s.nm, .str (sN s.gap.toNat)]
    let nsD : D := .lst ([s.gap.toNat].map Dn)
    let ρ : Ro := [.fz ws, .fz nsD, .un]
    have s1 : sSet 1 (eLc [2] (gN 2) (iOf (eSl dSlU (eVarB 0) (oSome (eC (.int 2))) oNone)) bYes (eCall (dDef 1 [] (dCall m_number_in)) (aCons (eVar 2) aNil))) (startE 3 [ws]) = some (.nx ρ) :=
      set_ev (i := 1) (nums_ev (ns := [s.gap.toNat]) rfl (fun n hn => by rw [List.mem_singleton.mp hn]; omega) (by simp) fun d => ⟨_, rfl, rfl⟩)
    have hp : eCall (dDef 2 [] (dMake mi_Pot .pot)) (aCons (eOp dIx (eVarB 0) (eC (.int 1))) (aCons (eOp dIx (eVarB 1) (eC (.int 0))) aNil)) ρ = some (.ok (.obj .pot [.str s.nm, .int s.gap])) :=
      call_ev (ds := [.str s.nm, .int s.gap]) (a_cons (op_ev (d := ws) (e := .int 1) rfl rfl rfl) (a_cons (op_ev (d := nsD) (e := .int 0) rfl rfl (by rw [← eg]; rfl)) rfl)) ((def_all rfl).trans (make_ok (pot_ok hn ⟨hg.1, hg.2.1⟩)))
    refine run_ret ((seq_nx s1).trans ((seq_nx (if_f (bT_ev (op_ev (d := .non) (e := nsD) rfl rfl (none_in _))) rfl)).trans (seq_rt ?_)))
    unfold sTryO
    rw [seq_rt (g1 := sIf _ _ sNil) (if_t (and_t (bT_ev (op_ev (d := .str "pot") (e := .str "pot") (op_ev (d := ws) (e := .int 0) rfl rfl rfl) rfl rfl)) (bT_ev (op_ev (d := .int 1) (e := .int 1) rfl rfl rfl))) (ret_ev hp))]
  · rw [if_neg z, if_neg z]
    have er : ((s.rest.toNat : Nat) : Int) = s.rest := Int.toNat_of_nonneg (by omega)
    have h2n : ∀ n ∈ [s.gap.toNat, s.rest.toNat], n < 100 := fun n hn => by
      simp only [List.mem_cons, List.not_mem_nil, or_false] at hn
      omega
    let ws : D := .lst [.str "cactus", .str s.nm, .str (sN s.gap.toNat), .str (sN s.rest.toNat)]
    let nsD : D := .lst ([s.gap.toNat, s.rest.toNat].map Dn)
    let ρ : Ro := [.fz ws, .fz nsD, .un]
    have s1 : sSet 1 (eLc [2] (gN 2) (iOf (eSl dSlU (eVarB 0) (oSome (eC (.int 2))) oNone)) bYes (eCall (dDef 1 [] (dCall m_number_in)) (aCons (eVar 2) aNil))) (startE 3 [ws]) = some (.nx ρ) :=
      set_ev (i := 1) (nums_ev (ns := [s.gap.toNat, s.rest.toNat]) rfl h2n (by simp) fun d => ⟨_, rfl, rfl⟩)
    have hp : eCall (dDef 3 [] (dMake mi_Cactus .cactus)) (aCons (eOp dIx (eVarB 0) (eC (.int 1))) (aCons (eOp dIx (eVarB 1) (eC (.int 0))) (aCons (eOp dIx (eVarB 1) (eC (.int 1))) aNil))) ρ = some (.ok (.obj .cactus [.str s.nm, .int s.gap, .int s.rest])) :=
      call_ev (ds := [.str s.nm, .int s.gap, .int s.rest]) (a_cons (op_ev (d := ws) (e := .int 1) rfl rfl rfl) (a_cons (op_ev (d := nsD) (e := .int 0) rfl rfl (by rw [← eg]; rfl)) (a_cons (op_ev (d := nsD) (e := .int 1) rfl rfl (by rw [← er]; rfl)) rfl))) ((def_all rfl).trans (make_ok (cac_ok hn ⟨hg.1, hg.2.1⟩ ⟨by omega, by omega⟩)))
    refine run_ret ((seq_nx s1).trans ((seq_nx (if_f (bT_ev (op_ev (d := .non) (e := nsD) rfl rfl (none_in _))) rfl)).trans (seq_rt ?_)))
    unfold sTryO
    rw [seq_nx (g1 := sIf _ _ sNil) (if_f (and_f (bT_ev (b := false) (op_ev (d := .str "cactus") (e := .str "pot") (op_ev (d := ws) (e := .int 0) rfl rfl rfl) rfl rfl))) rfl),
      if_t (and_t (bT_ev (op_ev (d := .str "cactus") (e := .str "cactus") (op_ev (d := ws) (e := .int 0) rfl rfl rfl) rfl rfl)) (bT_ev (op_ev (d := .int 2) (e := .int 2) rfl rfl rfl))) (ret_ev hp)]
end K09
namespace K09
open PySem PySem.Spec PyProof.Rows L2 Tw
/-! ### the first row -/
theorem cut_take (xs : List D) (k : Nat) : Tw.cutD xs none (some (k : Int)) = xs.take k := by
  unfold Tw.cutD
  rw [HT.sIx_none, HT.sIx_nat, List.drop_zero, Nat.sub_zero, ← List.take_eq_take_min]
theorem cut_from (xs : List D) (k : Nat) (h : k ≤ xs.length) : Tw.cutD xs (some (k : Int)) none = xs.drop k := by
  unfold Tw.cutD
  rw [HT.sIx_none, HT.sIx_nat, Nat.min_eq_left h]
  apply List.take_of_length_le
  rw [List.length_drop]; omega
theorem sl_to {ρ : Ro} {fa fk : Ro → EM D} {xs : List D} {k : Nat} (h1 : fa ρ = some (.ok (.lst xs))) (h2 : fk ρ = some (.ok (Dn k))) : eSl dSlU fa oNone (oSome fk) ρ = some (.ok (.lst (xs.take k))) := by
  unfold eSl oSome oNone
  rw [h1, bnd_ok]
  show bnd (bnd (fk ρ) _) _ = _
  rw [h2, bnd_ok]
  show some (Except.ok (D.lst (Tw.cutD xs none (some (k : Int))))) = _
  rw [cut_take]
theorem sl_from {ρ : Ro} {fa fk : Ro → EM D} {xs : List D} {k : Nat} (h1 : fa ρ = some (.ok (.lst xs))) (h2 : fk ρ = some (.ok (Dn k))) (hk : k ≤ xs.length) : eSl dSlU fa (oSome fk) oNone ρ = some (.ok (.lst (xs.drop k))) := by
  unfold eSl oSome oNone
  rw [h1, bnd_ok, h2, bnd_ok]
  show some (Except.ok (D.lst (Tw.cutD xs (some (k : Int)) none))) = _
  rw [cut_from _ _ hk]
theorem or_ev (b p : Nat) : dOr (Dn b) (Dn (2 ^ p)) = some (.ok (Dn (b ||| 2 ^ p))) := by
  show some (Except.ok (D.int (Builtin.bitOr (b : Int) ((2 ^ p : Nat) : Int)))) = _
  rw [PyProof.Rows.bitOr_and, PyProof.Rows.bitAnd_pp (x := (b : Int)) (y := ((2 ^ p : Nat) : Int)) (Int.natCast_nonneg _) (Int.natCast_nonneg _), Int.toNat_natCast, Int.toNat_natCast]
  have := PyProof.Rows.nat_or_add_and b (2 ^ p)
  congr 3
  omega

def orL (b : Nat) (ws : List Nat) : Nat := ws.foldl (fun b p => b ||| 2 ^ p) b
theorem orL_bit : ∀ (ws : List Nat) (b k : Nat), (orL b ws).testBit k = (b.testBit k || decide (k ∈ ws))
  | [], b, k => by simp [orL]
  | p :: ws, b, k => by
    show (orL (b ||| 2 ^ p) ws).testBit k = _
    rw [orL_bit ws, Nat.testBit_or, Nat.testBit_two_pow, Bool.or_assoc]
    congr 1
    rw [Bool.eq_iff_iff, Bool.or_eq_true, decide_eq_true_eq, decide_eq_true_eq, decide_eq_true_eq, List.mem_cons]
    exact or_congr ⟨fun e => e.symm, fun e => e.symm⟩ Iff.rfl
theorem orL_wet {wk cl : Nat} (h : cl < 2 ^ wk) : orL 0 (wet wk cl) = cl := by
  apply Nat.eq_of_testBit_eq
  intro k
  rw [orL_bit, Nat.zero_testBit, Bool.false_or]
  by_cases hk : k < wk
  · cases hb : cl.testBit k with
    | true => exact decide_eq_true (wet_mem.mpr ⟨hk, hb⟩)
    | false => exact decide_eq_false fun q => by have := (wet_mem.mp q).2; rw [hb] at this; cases this
  · rw [Nat.testBit_lt_two_pow (Nat.lt_of_lt_of_le h (Nat.pow_le_pow_right (by decide) (by omega)))]
    exact decide_eq_false fun q => hk (wet_mem.mp q).1
theorem wet_asc (wk cl : Nat) : (wet wk cl).Pairwise (· < ·) := (List.pairwise_lt_range' (s := 0) (n := wk)).filter _
def headW (c wk cl : Nat) : List Str := "garden" :: sN c :: sN wk :: (wet wk cl).map sN
abbrev bHd : Ro → Option Fl := (sSeq (sIf (bOr (bT (eOp dLe (eVarB 4) (eVarB 3))) (bT (eOp dGe (eVarB 4) (eOp dIx (eVarB 1) (eC (.int 1))))))
        (sRet (eC .non))
        sNil)
      (sSeq (sSet 3 (eVar 4))
      (sSet 2 (eOp dOr (eVarB 2) (eOp dShl (eC (.int 1)) (eVarB 4))))))
theorem le_nn (i j : Int) : dLe (.int i) (.int j) = some (.ok (.bl (decide (i ≤ j)))) := rfl
theorem ge_nn (i j : Int) : dGe (.int i) (.int j) = some (.ok (.bl (decide (j ≤ i)))) := rfl
abbrev roH (w : D) (c wk : Nat) (r : List D) (b : Nat) (l : Int) (e : Ent) : Ro := [.fz w, .fz (.lst (Dn c :: Dn wk :: r)), .fz (Dn b), .fz (.int l), e, .un]
theorem hd_go {w : D} {c wk : Nat} {r : List D} (hw : wk ≤ 900) : ∀ (ws : List Nat) (b : Nat) (l : Int) (e : Ent), ws.Pairwise (· < ·) → (∀ p ∈ ws, l < (p : Int) ∧ p < wk) → ∃ l' e', forD (gN 4) bHd (ws.map Dn) (roH w c wk r b l e) = some (.nx (roH w c wk r (orL b ws) l' e'))
  | [], b, l, e, _, _ => ⟨l, e, rfl⟩
  | p :: ws, b, l, e, ha, hb => by
    obtain ⟨h1, h2⟩ := hb p List.mem_cons_self
    obtain ⟨a1, a2⟩ := List.pairwise_cons.mp ha
    obtain ⟨l', e', ih⟩ := hd_go (w := w) (c := c) (r := r) hw ws (b ||| 2 ^ p) p (.fz (Dn p)) a2 fun q hq => ⟨by have := a1 q hq; omega, (hb q (List.mem_cons_of_mem _ hq)).2⟩
    refine ⟨l', e', (for_cons (ρ1 := roH w c wk r b l (.fz (Dn p))) (ρ2 := roH w c wk r (b ||| 2 ^ p) p (.fz (Dn p))) rfl ?_).trans ih⟩
    have c1 : bT (eOp dLe (eVarB 4) (eVarB 3)) (roH w c wk r b l (.fz (Dn p))) = some (.ok false) := by
      refine bT_ev (op_ev (d := Dn p) (e := .int l) rfl rfl ?_)
      rw [le_nn, decide_eq_false (by omega)]
    have c2 : bT (eOp dGe (eVarB 4) (eOp dIx (eVarB 1) (eC (.int 1)))) (roH w c wk r b l (.fz (Dn p))) = some (.ok false) := by
      refine bT_ev (op_ev (d := Dn p) (e := Dn wk) rfl (op_ev (d := .lst (Dn c :: Dn wk :: r)) (e := .int 1) rfl rfl (ix_lst (k := 1) rfl)) ?_)
      rw [ge_nn, decide_eq_false (by omega)]
    refine (seq_nx (if_f (or_f c1 c2) rfl)).trans ((seq_nx (ρ' := roH w c wk r b p (.fz (Dn p))) rfl).trans (set_ev (i := 2) (d := Dn (b ||| 2 ^ p)) ?_))
    exact op_ev (d := Dn b) (e := Dn (2 ^ p)) rfl (op_ev (d := .int 1) (e := Dn p) rfl rfl (shl_one p (by omega))) (or_ev b p)
theorem head_is {c wk cl : Nat} (hc : c ≤ 8) (hw : wk ≤ 14) (hcl : cl < 2 ^ wk) : m_head_in [.lst ((headW c wk cl).map D.str)] = some (.ret (.tup [Dn c, Dn wk, Dn cl])) := by
  let ns : List Nat := c :: wk :: wet wk cl
  let w : D := .lst ((headW c wk cl).map D.str)
  have hl := wet_len wk cl
  have hns : ∀ n ∈ ns, n < 100 := fun n hn => by
    rcases List.mem_cons.mp hn with rfl | hn
    · omega
    · rcases List.mem_cons.mp hn with rfl | hn
      · omega
      · have := (wet_mem.mp hn).1; omega
  have w1 : (headW c wk cl).map D.str = .str "garden" :: (ns.map sN).map D.str := rfl
  let nsD : D := .lst (ns.map Dn)
  have s1 : sSet 1 (eLc [5] (gN 5) (iOf (eSl dSlU (eVarB 0) (oSome (eC (.int 1))) oNone)) bYes (eCall (dDef 1 [] (dCall m_number_in)) (aCons (eVar 5) aNil))) (startE 6 [w]) = some (.nx [.fz w, .fz nsD, .un, .un, .un, .un]) := by
    refine set_ev (i := 1) (nums_ev (i := 5) (ns := ns) (iof_ev ((sl_from (xs := (headW c wk cl).map D.str) (k := 1) rfl rfl (by rw [w1]; simp)).trans (by rw [w1]; rfl))) hns (by show (wet wk cl).length + 1 + 1 ≤ _; omega) fun d => ⟨_, rfl, rfl⟩)
  have c1 : bT (eOp dNe (eSl dSlU (eVarB 0) oNone (oSome (eC (.int 1)))) (eLst (aCons (eC (.str "garden")) aNil))) [.fz w, .fz nsD, .un, .un, .un, .un] = some (.ok false) := by
    refine bT_ev (op_ev (d := .lst [.str "garden"]) (e := .lst [.str "garden"]) ((sl_to (xs := (headW c wk cl).map D.str) (k := 1) rfl rfl).trans (by rw [w1]; rfl)) (lst_ev (n := 1) (a_cons rfl rfl) (Nat.le_refl 1)) (ne_lst ?_))
    decide +kernel
  have c2 : bT (eOp dIn (eC .non) (eVarB 1)) [.fz w, .fz nsD, .un, .un, .un, .un] = some (.ok false) := bT_ev (op_ev (d := .non) (e := nsD) rfl rfl (none_in _))
  have c3 : bT (eOp dLt (eCall dLen (aCons (eVarB 1) aNil)) (eC (.int 2))) [.fz w, .fz nsD, .un, .un, .un, .un] = some (.ok false) := by
    refine bT_ev (op_ev (d := .int ((ns.map Dn).length : Nat)) (e := .int 2) (call_ev (ds := [nsD]) rfl rfl) rfl ?_)
    show some (Except.ok (D.bl (decide (((ns.map Dn).length : Int) < 2)))) = _
    rw [decide_eq_false (by rw [List.length_map]; show ¬ (((wet wk cl).length + 1 + 1 : Nat) : Int) < 2; omega)]
  obtain ⟨l', e', hf⟩ := hd_go (w := w) (c := c) (r := (wet wk cl).map Dn) (show wk ≤ 900 by omega) (wet wk cl) 0 (-1) .un (wet_asc wk cl) fun p hp => ⟨by omega, (wet_mem.mp hp).1⟩
  rw [orL_wet hcl] at hf
  have s5 : (iOf (eSl dSlU (eVarB 1) (oSome (eC (.int 2))) oNone)) (roH w c wk ((wet wk cl).map Dn) 0 (-1) .un) = some (.ok ((wet wk cl).map Dn)) :=
    iof_ev ((sl_from (xs := ns.map Dn) (k := 2) rfl rfl (by rw [List.length_map]; show 2 ≤ (wet wk cl).length + 1 + 1; omega)).trans rfl)
  refine run_ret ((seq_nx s1).trans ((seq_nx (if_f (or_f c1 (or_f c2 c3)) rfl)).trans ((seq_nx (ρ' := [.fz w, .fz nsD, .fz (.int 0), .un, .un, .un]) rfl).trans ((seq_nx (ρ' := roH w c wk ((wet wk cl).map Dn) 0 (-1) .un) rfl).trans ((seq_nx (for_ev s5 hf)).trans ?_)))))
  exact ret_ev (tup_ev (n := 3) (a_cons (op_ev (d := nsD) (e := .int 0) rfl rfl (ix_lst (k := 0) rfl)) (a_cons (op_ev (d := nsD) (e := .int 1) rfl rfl (ix_lst (k := 1) rfl)) (a_cons rfl rfl))) (Nat.le_refl 3))
end K09
namespace K09
open PySem PySem.Spec PyProof.Rows L2 Tw
/-! ### rows read -/
def Sm (ws : List Str) : Prop := (∀ w ∈ ws, smD (.str w) = true) ∧ ws.length ≤ 100
theorem Sm_ok {ws : List Str} (h : Sm ws) : okS (.lst (ws.map D.str)) = true := by
  have k1 : smL (ws.map D.str) = true := smL_all fun d hd => by obtain ⟨s, hs, rfl⟩ := List.mem_map.mp hd; exact h.1 s hs
  have k2 := szL_le (b := 1) (ds := ws.map D.str) fun d hd => by obtain ⟨s, hs, rfl⟩ := List.mem_map.mp hd; exact Nat.le_refl _
  have k3 := dpL_le (b := 0) (ds := ws.map D.str) fun d hd => by obtain ⟨s, hs, rfl⟩ := List.mem_map.mp hd; exact Nat.le_refl _
  rw [List.length_map] at k2
  show (smL _ && (decide (szL _ + 1 ≤ 20000) && decide (dpL _ + 1 ≤ 60))) = true
  have := h.2
  rw [k1, decide_eq_true (by omega), decide_eq_true (by omega)]; rfl
theorem sm_str {s : Str} (h : smD (.str s) = true) : okS (.str s) = true := by
  show (smD (.str s) && (decide (1 ≤ 20000) && decide (0 ≤ 60))) = true
  rw [h]; rfl
def Lv (ws : List Str) : Prop := ∀ w ∈ ws, PyData.strOk w = true
theorem sm_ok1 {w : Str} (h : smD (.str w) = true) : PyData.strOk w = true := by
  simp only [smD, Bool.and_eq_true] at h
  exact h.2.2
theorem Sm_Lv {ws : List Str} (h : Sm ws) : Lv ws := fun w hw => sm_ok1 (h.1 w hw)
theorem lines_canlay {l : List Str} (h : ∀ y ∈ l, PyData.strOk y = true) : PyData.canLayAll0 (pyL (l.map D.str)) = true ∧ PyData.depthAll (pyL (l.map D.str)) = 0 := by
  induction l with
  | nil => simp [pyL, PyData.canLayAll0, PyData.depthAll]
  | cons y l ih =>
    obtain ⟨a, b⟩ := ih fun z hz => h z (List.mem_cons_of_mem _ hz)
    simp [pyL, py, PyData.canLayAll0, PyData.canLay0, PyData.depthAll, PyData.depth, a, b, h y List.mem_cons_self]
theorem lines_fit {l : List Str} (h : ∀ y ∈ l, PyData.strOk y = true) : fit (.lst (l.map D.str)) = true ∧ (py (.lst (l.map D.str))).canLay0 = true := by
  obtain ⟨a, b⟩ := lines_canlay h
  have c : (py (.lst (l.map D.str))).canLay0 = true := by
    show (PyData.list (pyL (l.map D.str))).canLay0 = true
    simp only [PyData.canLay0]
    exact a
  refine ⟨?_, c⟩
  show SeqAt.shaped (PyData.list (pyL (l.map D.str))) = true
  unfold SeqAt.shaped
  rw [show (PyData.list (pyL (l.map D.str))).canLay0 = true from c]
  simp [PyData.depth, b]
theorem ne_ws {ws : List Str} (h : Lv ws) : dNe (.lst (ws.map D.str)) (.lst []) = some (.ok (.bl (!decide (ws = [])))) := by
  show (if fit (.lst (ws.map D.str)) = true ∧ fit (.lst []) = true then ok (D.bl (!PyData.eqv (.list (pyL (ws.map D.str))) (.list (pyL [])))) else none) = _
  rw [if_pos ⟨(lines_fit h).1, fit_nil⟩]
  cases ws with
  | nil => simp [PyData.eqv, PyData.eqvAll, pyL, ok]
  | cons k ws => simp [PyData.eqv, PyData.eqvAll, pyL, ok]
theorem any_nm (s : Str) : ∀ l : List Str, ((pyL (l.map D.str)).any fun z => PyData.eqv z (py (.str s))) = decide (s ∈ l)
  | [] => by simp [pyL]
  | a :: l => by
    show (PyData.eqv (.str a) (.str s) || (pyL (l.map D.str)).any fun z => PyData.eqv z (py (.str s))) = _
    rw [any_nm s l]
    have e : PyData.eqv (.str a) (.str s) = decide (a = s) := by
      simp only [PyData.eqv]
      first | rfl | exact (Bool.eq_iff_iff.mpr (by simp))
    rw [e]
    by_cases q : a = s
    · subst q; simp
    · have : ¬ s = a := fun z => q z.symm
      simp [q, this]
theorem in_nm {s : Str} {l : List Str} (hs : smD (.str s) = true) (hl : Sm l) : dIn (.str s) (.lst (l.map D.str)) = some (.ok (.bl (decide (s ∈ l)))) := by
  show (if fit (.str s) = true ∧ fit (.lst (l.map D.str)) = true then ok (D.bl ((pyL (l.map D.str)).any fun z => PyData.eqv z (py (.str s)))) else none) = _
  rw [if_pos ⟨okS_fit (sm_str hs), okS_fit (Sm_ok hl)⟩, any_nm]
  rfl
theorem P.name_is (p : P) : dFld "name" p.d = some (.ok (.str p.nm)) := by
  unfold P.d
  cases p.rest <;> rfl
theorem nms_ev {ρ : Ro} {i j : Nat} {ps : List P} (h : eVar i ρ = some (.ok (.lst (ps.map P.d)))) (hl : ps.length ≤ 1000) (hg : ∀ d : D, ∃ ρ1, gN j d (wipeE ρ [j]) = some ρ1 ∧ eVarB j ρ1 = some (.ok d)) : eLc [j] (gN j) (iOf (eVar i)) bYes (e1 (dFld "name") (eVarB j)) ρ = some (.ok (.lst ((ps.map (·.nm)).map D.str))) := by
  refine lc_ev (ds := ps.map P.d) (iof_ev h) ?_ (by rw [List.length_map, List.length_map]; omega)
  have key : ∀ l : List P, lcD (gN j) bYes (e1 (dFld "name") (eVarB j)) (wipeE ρ [j]) (l.map P.d) = some ((l.map (·.nm)).map D.str) := fun l => by
    induction l with
    | nil => rfl
    | cons p l ih =>
      obtain ⟨ρ1, g1, g2⟩ := hg p.d
      rw [List.map_cons, List.map_cons]
      unfold lcD
      rw [g1]
      dsimp only
      rw [show bYes ρ1 = some (.ok true) from rfl]
      dsimp only
      rw [e1_ev g2 p.name_is]
      dsimp only
      rw [ih]
      rfl
  exact key ps
def Row (x : Str) (ws : List Str) : Prop := Wd (ch x) (ws.map ch) ∧ x.length ≤ 10000
/-- a row that tells nothing -/
def Skip (x : Str) : Prop := ∃ ws, Row x ws ∧ Sm ws ∧ (ws = [] ∨ ∃ w r, ws = w :: r ∧ Txt.startswith w "#" = true)
inductive RdP : List Str → List S → Prop
  | nil : RdP [] []
  | skip {x : Str} {r : List Str} {s1 : List S} : Skip x → RdP r s1 → RdP (x :: r) s1
  | pot {x : Str} {r : List Str} {s : S} {s1 : List S} : Row x (potW s) → RdP r s1 → RdP (x :: r) (s :: s1)
inductive RdH (c wk cl : Nat) : List Str → List S → Prop
  | skip {x : Str} {r : List Str} {s1 : List S} : Skip x → RdH c wk cl r s1 → RdH c wk cl (x :: r) s1
  | head {x : Str} {r : List Str} {s1 : List S} : Row x (headW c wk cl) → RdP r s1 → RdH c wk cl (x :: r) s1
theorem RdP.skips {r : List Str} {s1 : List S} (h : RdP r s1) : ∀ {l : List Str}, (∀ x ∈ l, Skip x) → RdP (l ++ r) s1
  | [], _ => h
  | x :: l, hl => .skip (hl x List.mem_cons_self) (h.skips fun y hy => hl y (List.mem_cons_of_mem _ hy))
theorem RdH.skips {c wk cl : Nat} {r : List Str} {s1 : List S} (h : RdH c wk cl r s1) : ∀ {l : List Str}, (∀ x ∈ l, Skip x) → RdH c wk cl (l ++ r) s1
  | [], _ => h
  | x :: l, hl => .skip (hl x List.mem_cons_self) (h.skips fun y hy => hl y (List.mem_cons_of_mem _ hy))
abbrev cRow : Ro → EM Bool := (bAnd (bT (eOp dNe (eVarB 5) (eLst aNil))) (bNot (bT (eMt dStarts (eOp dIx (eVarB 5) (eC (.int 0))) (aCons (eC (.str "#")) aNil)))))
abbrev sWds : Ro → Option Fl := (sSet 5 (eCall (dDef 1 [] (dCall m_words_of)) (aCons (eOp dIx (eVarB 1) (eVarB 4)) aNil)))
abbrev gHead : Ro → Option Fl := (sSeq (sSet 2 (eCall (dDef 1 [] (dCall m_head_in)) (aCons (eVar 5) aNil)))
          (sIf (bT (eOp dIsN (eVarB 2) (eC .non)))
            (sRaiseF .badRow (eOp dAddU (eVarB 4) (eC (.int 1))))
            sNil))
abbrev gPot : Ro → Option Fl := (sSeq (sSet 6 (eCall (dDef 1 [] (dCall m_pot_in)) (aCons (eVar 5) aNil)))
          (sSeq (sIf (bOr (bT (eOp dIsN (eVarB 6) (eC .non))) (bLend 3 (bT (eOp dIn (e1 (dFld "name") (eVarB 6)) (eLc [8] (gN 8) (iOf (eVar 3)) bYes (e1 (dFld "name") (eVarB 8)))))))
            (sRaiseF .badRow (eOp dAddU (eVarB 4) (eC (.int 1))))
            sNil)
          (gdO 3 (sApp 3 (eVar 6)))))
abbrev bRd : Ro → Option Fl := (sSeq sWds
      (sIf cRow
        (sIf (bT (eOp dIsN (eVarB 2) (eC .non)))
          gHead
          gPot)
        sNil))
section
variable {t : D} {rows : List Str}
abbrev roR (t : D) (rows : List Str) (e2 : Ent) (acc : List S) (e4 e5 e6 : Ent) : Ro := [.fz t, .fz (.lst (rows.map D.str)), e2, .ow ((acc.map S.p).map P.d), e4, e5, e6, .un, .un]
theorem wds_ev {e2 e5 e6 : Ent} {acc : List S} {k : Nat} {x : Str} {ws : List Str} (hx : rows[k]? = some x) (h : Row x ws) : sWds (roR t rows e2 acc (.fz (Dn k)) e5 e6) = some (.nx (roR t rows e2 acc (.fz (Dn k)) (.fz (.lst (ws.map D.str))) e6)) := by
  refine set_ev (i := 5) (call_ev (ds := [.str x]) (a_cons (op_ev (d := .lst (rows.map D.str)) (e := Dn k) rfl rfl (ix_lst ?_)) rfl) ((def_all rfl).trans (call_ret (words_is h.1 h.2))))
  rw [List.getElem?_map, hx]; rfl
theorem row_skip {e2 e4 e6 : Ent} {acc : List S} {ws : List Str} (h : Lv ws) (hs : ws = [] ∨ ∃ w r, ws = w :: r ∧ Txt.startswith w "#" = true) : cRow (roR t rows e2 acc e4 (.fz (.lst (ws.map D.str))) e6) = some (.ok false) := by
  have c1 : bT (eOp dNe (eVarB 5) (eLst aNil)) (roR t rows e2 acc e4 (.fz (.lst (ws.map D.str))) e6) = some (.ok (!decide (ws = []))) := bT_ev (op_ev (d := .lst (ws.map D.str)) (e := .lst []) rfl (lst_ev (n := 0) rfl (Nat.le_refl 0)) (ne_ws h))
  rcases hs with rfl | ⟨w, r, rfl, hw⟩
  · exact and_f c1
  · rw [decide_eq_false (by simp)] at c1
    refine and_t c1 (not_tt _ _ true (bT_ev (mt_ev (z := w) (ds := [.str "#"]) (op_ev (d := .lst ((w :: r).map D.str)) (e := .int 0) rfl rfl (ix_lst (k := 0) rfl)) (a_cons rfl rfl) ?_)))
    show some (Except.ok (D.bl (Txt.startswith w "#"))) = _
    rw [hw]
theorem row_live {e2 e4 e6 : Ent} {acc : List S} {w : Str} {r : List Str} (h : Lv (w :: r)) (hw : Txt.startswith w "#" = false) : cRow (roR t rows e2 acc e4 (.fz (.lst ((w :: r).map D.str))) e6) = some (.ok true) := by
  have c1 : bT (eOp dNe (eVarB 5) (eLst aNil)) (roR t rows e2 acc e4 (.fz (.lst ((w :: r).map D.str))) e6) = some (.ok (!decide (w :: r = []))) := bT_ev (op_ev (d := .lst ((w :: r).map D.str)) (e := .lst []) rfl (lst_ev (n := 0) rfl (Nat.le_refl 0)) (ne_ws h))
  rw [decide_eq_false (by simp)] at c1
  refine and_t c1 (not_tt _ _ false (bT_ev (mt_ev (z := w) (ds := [.str "#"]) (op_ev (d := .lst ((w :: r).map D.str)) (e := .int 0) rfl rfl (ix_lst (k := 0) rfl)) (a_cons rfl rfl) ?_)))
  show some (Except.ok (D.bl (Txt.startswith w "#"))) = _
  rw [hw]
theorem rd_skip {e2 e5 e6 : Ent} {acc : List S} {k : Nat} {x : Str} (hx : rows[k]? = some x) (h : Skip x) : ∃ e5', bRd (roR t rows e2 acc (.fz (Dn k)) e5 e6) = some (.nx (roR t rows e2 acc (.fz (Dn k)) e5' e6)) := by
  obtain ⟨ws, h1, h2, h3⟩ := h
  exact ⟨_, (seq_nx (wds_ev hx h1)).trans (if_f (row_skip (Sm_Lv h2) h3) rfl)⟩
theorem sN_sm_all : (List.range 100).all (fun n => smD (.str (sN n))) = true := by decide +kernel
theorem sN_sm {n : Nat} (h : n < 100) : smD (.str (sN n)) = true := List.all_eq_true.mp sN_sm_all n (List.mem_range.mpr h)
theorem potW_sm {s : S} (hg : 1 ≤ s.gap ∧ s.gap ≤ 60 ∧ -1 ≤ s.rest ∧ s.rest < s.gap) (hn : smD (.str s.nm) = true) : ∃ w r, potW s = w :: r ∧ Txt.startswith w "#" = false ∧ Sm (potW s) := by
  unfold potW
  by_cases z : s.rest < 0
  · rw [if_pos z]
    refine ⟨_, _, rfl, by decide +kernel, fun w hw => ?_, by simp⟩
    simp only [List.mem_cons, List.not_mem_nil, or_false] at hw
    rcases hw with rfl | rfl | rfl
    · decide +kernel
    · exact hn
    · exact sN_sm (by omega)
  · rw [if_neg z]
    refine ⟨_, _, rfl, by decide +kernel, fun w hw => ?_, by simp⟩
    simp only [List.mem_cons, List.not_mem_nil, or_false] at hw
    rcases hw with rfl | rfl | rfl | rfl
    · decide +kernel
    · exact hn
    · exact sN_sm (by omega)
    · exact sN_sm (by omega)
theorem headW_sm {c wk cl : Nat} (hc : c ≤ 8) (hw : wk ≤ 14) : Sm (headW c wk cl) := by
  have hl := wet_len wk cl
  refine ⟨fun w hm => ?_, by show ((wet wk cl).map sN).length + 1 + 1 + 1 ≤ 100; rw [List.length_map]; omega⟩
  rcases List.mem_cons.mp hm with rfl | hm
  · decide +kernel
  rcases List.mem_cons.mp hm with rfl | hm
  · exact sN_sm (by omega)
  rcases List.mem_cons.mp hm with rfl | hm
  · exact sN_sm (by omega)
  obtain ⟨p, hp, rfl⟩ := List.mem_map.mp hm
  exact sN_sm (by have := (wet_mem.mp hp).1; omega)
def okSp (s : S) : Prop := (1 ≤ s.gap ∧ s.gap ≤ 60 ∧ -1 ≤ s.rest ∧ s.rest < s.gap) ∧ m_is_name [.str s.nm] = some (.ret (.bl true)) ∧ smD (.str s.nm) = true
theorem rd_pot {hd : D} {e5 e6 : Ent} {acc : List S} {k : Nat} {x : Str} {s : S} (hh : isNon hd = false) (hx : rows[k]? = some x) (h : Row x (potW s)) (ho : okSp s) (ha : ∀ a ∈ acc, okSp a) (hl : acc.length ≤ 8) (hn : s.nm ∉ acc.map (·.nm)) : ∃ e5' e6', bRd (roR t rows (.fz hd) acc (.fz (Dn k)) e5 e6) = some (.nx (roR t rows (.fz hd) (acc ++ [s]) (.fz (Dn k)) e5' e6')) := by
  obtain ⟨w, r, hw, hst, hsm⟩ := potW_sm ho.1 ho.2.2
  let ρ := fun (e6 : Ent) => roR t rows (.fz hd) acc (.fz (Dn k)) (.fz (.lst ((potW s).map D.str))) e6
  have c1 : cRow (ρ e6) = some (.ok true) := by
    show cRow (roR t rows (.fz hd) acc (.fz (Dn k)) (.fz (.lst ((potW s).map D.str))) e6) = _
    rw [hw] at hsm ⊢
    exact row_live (Sm_Lv hsm) hst
  have c2 : bT (eOp dIsN (eVarB 2) (eC .non)) (ρ e6) = some (.ok false) := bT_ev (op_ev (d := hd) (e := .non) rfl rfl (by show some (Except.ok (D.bl (isNon hd))) = _; rw [hh]))
  have s6 : sSet 6 (eCall (dDef 1 [] (dCall m_pot_in)) (aCons (eVar 5) aNil)) (ρ e6) = some (.nx (ρ (.fz s.p.d))) := set_ev (i := 6) (call_ev (ds := [.lst ((potW s).map D.str)]) rfl ((def_all rfl).trans (call_ret (potin_is ho.1 ho.2.1))))
  have hnon : isNon s.p.d = false := by
    unfold P.d
    cases s.p.rest <;> rfl
  have c3 : bT (eOp dIsN (eVarB 6) (eC .non)) (ρ (.fz s.p.d)) = some (.ok false) := bT_ev (op_ev (d := s.p.d) (e := .non) rfl rfl (by show some (Except.ok (D.bl (isNon s.p.d))) = _; rw [hnon]))
  have e1' : (acc.map S.p).map (·.nm) = acc.map (·.nm) := by rw [List.map_map]; rfl
  have c4 : bLend 3 (bT (eOp dIn (e1 (dFld "name") (eVarB 6)) (eLc [8] (gN 8) (iOf (eVar 3)) bYes (e1 (dFld "name") (eVarB 8))))) (ρ (.fz s.p.d)) = some (.ok false) := by
    show bT (eOp dIn (e1 (dFld "name") (eVarB 6)) (eLc [8] (gN 8) (iOf (eVar 3)) bYes (e1 (dFld "name") (eVarB 8)))) [.fz t, .fz (.lst (rows.map D.str)), .fz hd, .fz (.lst ((acc.map S.p).map P.d)), .fz (Dn k), .fz (.lst ((potW s).map D.str)), .fz s.p.d, .un, .un] = _
    refine bT_ev (op_ev (d := .str s.nm) (e1_ev (d := s.p.d) rfl s.p.name_is) (nms_ev (ps := acc.map S.p) rfl (by rw [List.length_map]; omega) fun d => ⟨_, rfl, rfl⟩) ((in_nm ho.2.2 ⟨fun w hm => ?_, ?_⟩).trans ?_))
    · rw [e1'] at hm
      obtain ⟨a, hq, rfl⟩ := List.mem_map.mp hm
      exact (ha a hq).2.2
    · rw [List.length_map, List.length_map]; omega
    · rw [e1', decide_eq_false hn]
  refine ⟨.fz (.lst ((potW s).map D.str)), .fz s.p.d, (seq_nx (wds_ev hx h)).trans (if_t c1 (if_f c2 ((seq_nx s6).trans ((seq_nx (if_f (or_f c3 c4) rfl)).trans ?_))))⟩
  rw [show roR t rows (.fz hd) (acc ++ [s]) (.fz (Dn k)) (.fz (.lst ((potW s).map D.str))) (.fz s.p.d) = [.fz t, .fz (.lst (rows.map D.str)), .fz hd, .ow ((acc.map S.p).map P.d ++ [s.p.d]), .fz (Dn k), .fz (.lst ((potW s).map D.str)), .fz s.p.d, .un, .un] from by unfold roR; rw [List.map_append, List.map_append]; rfl]
  exact app_ev (i := 3) (ds := (acc.map S.p).map P.d) (d := s.p.d) rfl rfl (by rw [List.length_map, List.length_map]; omega)
theorem rdS_go {e2 : Ent} {acc : List S} : ∀ (r tl : List Str) (k m : Nat) (e4 e5 e6 : Ent), (∀ x ∈ r, Skip x) → rows.drop k = r ++ tl →
    ∃ e4' e5' e6', forD (gN 4) bRd ((List.range' k (r.length + m)).map Dn) (roR t rows e2 acc e4 e5 e6) = forD (gN 4) bRd ((List.range' (k + r.length) m).map Dn) (roR t rows e2 acc e4' e5' e6')
  | [], tl, k, m, e4, e5, e6, _, _ => ⟨e4, e5, e6, by rw [List.length_nil, Nat.zero_add, Nat.add_zero]⟩
  | x :: r, tl, k, m, e4, e5, e6, hs, hd' => by
    obtain ⟨g1, g2⟩ := drop_get hd'
    obtain ⟨e5a, hb⟩ := rd_skip (t := t) (e2 := e2) (acc := acc) (e5 := e5) (e6 := e6) g1 (hs x List.mem_cons_self)
    obtain ⟨a, b, c, hf⟩ := rdS_go r tl (k + 1) m (.fz (Dn k)) e5a e6 (fun y hy => hs y (List.mem_cons_of_mem _ hy)) g2
    refine ⟨a, b, c, ?_⟩
    rw [List.length_cons, show r.length + 1 + m = (r.length + m) + 1 by omega, List.range'_succ, List.map_cons, show k + (r.length + 1) = k + 1 + r.length by omega]
    exact (for_cons (ρ1 := roR t rows e2 acc (.fz (Dn k)) e5 e6) rfl hb).trans hf
theorem rdP_go {hd : D} (hh : isNon hd = false) {r : List Str} {s1 : List S} (h : RdP r s1) : ∀ (tl : List Str) (k m : Nat) (acc : List S) (e4 e5 e6 : Ent), rows.drop k = r ++ tl → (∀ s ∈ acc ++ s1, okSp s) → (acc ++ s1).length ≤ 9 → ((acc ++ s1).map (·.nm)).Nodup →
    ∃ e4' e5' e6', forD (gN 4) bRd ((List.range' k (r.length + m)).map Dn) (roR t rows (.fz hd) acc e4 e5 e6) = forD (gN 4) bRd ((List.range' (k + r.length) m).map Dn) (roR t rows (.fz hd) (acc ++ s1) e4' e5' e6') := by
  induction h with
  | nil => intro tl k m acc e4 e5 e6 _ _ _ _; exact ⟨e4, e5, e6, by rw [List.append_nil, List.length_nil, Nat.zero_add, Nat.add_zero]⟩
  | @skip x r s1 hs _ ih =>
    intro tl k m acc e4 e5 e6 hd' h1 h2 h3
    obtain ⟨g1, g2⟩ := drop_get hd'
    obtain ⟨e5a, hb⟩ := rd_skip (t := t) (e2 := .fz hd) (acc := acc) (e5 := e5) (e6 := e6) g1 hs
    obtain ⟨a, b, c, hf⟩ := ih tl (k + 1) m acc (.fz (Dn k)) e5a e6 g2 h1 h2 h3
    refine ⟨a, b, c, ?_⟩
    rw [List.length_cons, show r.length + 1 + m = (r.length + m) + 1 by omega, List.range'_succ, List.map_cons, show k + (r.length + 1) = k + 1 + r.length by omega]
    exact (for_cons (ρ1 := roR t rows (.fz hd) acc (.fz (Dn k)) e5 e6) rfl hb).trans hf
  | @pot x r s s1 hs _ ih =>
    intro tl k m acc e4 e5 e6 hd' h1 h2 h3
    obtain ⟨g1, g2⟩ := drop_get hd'
    have hn : s.nm ∉ acc.map (·.nm) := fun q => by
      rw [List.map_append, List.map_cons] at h3
      exact (List.nodup_append.mp h3).2.2 _ q _ List.mem_cons_self rfl
    obtain ⟨e5a, e6a, hb⟩ := rd_pot (t := t) (acc := acc) (e5 := e5) (e6 := e6) hh g1 hs (h1 s (by simp)) (fun a ha => h1 a (List.mem_append_left _ ha)) (by rw [List.length_append, List.length_cons] at h2; omega) hn
    obtain ⟨a, b, c, hf⟩ := ih tl (k + 1) m (acc ++ [s]) (.fz (Dn k)) e5a e6a g2 (by simpa using h1) (by simpa using h2) (by simpa using h3)
    refine ⟨a, b, c, ?_⟩
    rw [List.length_cons, show r.length + 1 + m = (r.length + m) + 1 by omega, List.range'_succ, List.map_cons, show k + (r.length + 1) = k + 1 + r.length by omega]
    refine (for_cons (ρ1 := roR t rows (.fz hd) acc (.fz (Dn k)) e5 e6) rfl hb).trans (hf.trans ?_)
    rw [List.append_assoc]; rfl
theorem rdH_go {c wk cl : Nat} (hc : c ≤ 8) (hw : wk ≤ 14) (hcl : cl < 2 ^ wk) {r : List Str} {s1 : List S} (h : RdH c wk cl r s1) : ∀ (tl : List Str) (k m : Nat) (e4 e5 e6 : Ent), rows.drop k = r ++ tl → (∀ s ∈ s1, okSp s) → s1.length ≤ 9 → (s1.map (·.nm)).Nodup →
    ∃ e4' e5' e6', forD (gN 4) bRd ((List.range' k (r.length + m)).map Dn) (roR t rows (.fz .non) [] e4 e5 e6) = forD (gN 4) bRd ((List.range' (k + r.length) m).map Dn) (roR t rows (.fz (.tup [Dn c, Dn wk, Dn cl])) s1 e4' e5' e6') := by
  induction h with
  | @skip x r s1 hs _ ih =>
    intro tl k m e4 e5 e6 hd' h1 h2 h3
    obtain ⟨g1, g2⟩ := drop_get hd'
    obtain ⟨e5a, hb⟩ := rd_skip (t := t) (e2 := .fz .non) (acc := []) (e5 := e5) (e6 := e6) g1 hs
    obtain ⟨a, b, c, hf⟩ := ih tl (k + 1) m (.fz (Dn k)) e5a e6 g2 h1 h2 h3
    refine ⟨a, b, c, ?_⟩
    rw [List.length_cons, show r.length + 1 + m = (r.length + m) + 1 by omega, List.range'_succ, List.map_cons, show k + (r.length + 1) = k + 1 + r.length by omega]
    exact (for_cons (ρ1 := roR t rows (.fz .non) [] (.fz (Dn k)) e5 e6) rfl hb).trans hf
  | @head x r s1 hs hp =>
    intro tl k m e4 e5 e6 hd' h1 h2 h3
    obtain ⟨g1, g2⟩ := drop_get hd'
    let hd : D := .tup [Dn c, Dn wk, Dn cl]
    let ρ := fun (e2 : Ent) => roR t rows e2 [] (.fz (Dn k)) (.fz (.lst ((headW c wk cl).map D.str))) e6
    have c1 : cRow (ρ (.fz .non)) = some (.ok true) := row_live (Sm_Lv (headW_sm hc hw)) (by decide +kernel)
    have s2 : sSet 2 (eCall (dDef 1 [] (dCall m_head_in)) (aCons (eVar 5) aNil)) (ρ (.fz .non)) = some (.nx (ρ (.fz hd))) := set_ev (i := 2) (call_ev (ds := [.lst ((headW c wk cl).map D.str)]) rfl ((def_all rfl).trans (call_ret (head_is hc hw hcl))))
    have hb : bRd (roR t rows (.fz .non) [] (.fz (Dn k)) e5 e6) = some (.nx (ρ (.fz hd))) := (seq_nx (wds_ev g1 hs)).trans (if_t c1 (if_t rfl ((seq_nx s2).trans (if_f rfl rfl))))
    obtain ⟨a, b, c', hf⟩ := rdP_go (t := t) (rows := rows) (hd := hd) rfl hp tl (k + 1) m [] (.fz (Dn k)) (.fz (.lst ((headW c wk cl).map D.str))) e6 g2 (by simpa using h1) (by simpa using h2) (by simpa using h3)
    refine ⟨a, b, c', ?_⟩
    rw [List.length_cons, show r.length + 1 + m = (r.length + m) + 1 by omega, List.range'_succ, List.map_cons, show k + (r.length + 1) = k + 1 + r.length by omega]
    exact (for_cons (ρ1 := roR t rows (.fz .non) [] (.fz (Dn k)) e5 e6) rfl hb).trans hf
/-! rows that can't be read -/
theorem raise_ev {k : Nat} {ρ : Ro} (h : eVarB 4 ρ = some (.ok (Dn k))) : sRaiseF .badRow (eOp dAddU (eVarB 4) (eC (.int 1))) ρ = some (.ex (.badRow ((k : Int) + 1)) ρ) := by
  unfold sRaiseF
  rw [op_ev (h := dAddU) (d := Dn k) (e := .int 1) h rfl (show dAddU (Dn k) (.int 1) = some (.ok (.int ((k : Int) + 1))) from rfl), toS_ok]
/-- words that are read, and tell nothing -/
structure BadW (x w : Str) (r : List Str) : Prop where
  row : Row x (w :: r)
  lv : Lv (w :: r)
  st : Txt.startswith w "#" = false
theorem bad_head {e5 e6 : Ent} {k : Nat} {x w : Str} {r : List Str} (hx : rows[k]? = some x) (h : BadW x w r) (hn : m_head_in [.lst ((w :: r).map D.str)] = some (.ret .non)) : ∃ ρ', bRd (roR t rows (.fz .non) [] (.fz (Dn k)) e5 e6) = some (.ex (.badRow ((k : Int) + 1)) ρ') := by
  let ρ := fun (e2 : Ent) => roR t rows e2 [] (.fz (Dn k)) (.fz (.lst ((w :: r).map D.str))) e6
  have c1 : cRow (ρ (.fz .non)) = some (.ok true) := row_live h.lv h.st
  have s2 : sSet 2 (eCall (dDef 1 [] (dCall m_head_in)) (aCons (eVar 5) aNil)) (ρ (.fz .non)) = some (.nx (ρ (.fz .non))) := set_ev (i := 2) (call_ev (ds := [.lst ((w :: r).map D.str)]) rfl ((def_all rfl).trans (call_ret hn)))
  exact ⟨_, (seq_nx (wds_ev hx h.row)).trans (if_t c1 (if_t rfl ((seq_nx s2).trans (if_t rfl (raise_ev rfl)))))⟩
theorem bad_pot {hd : D} {e5 e6 : Ent} {acc : List S} {k : Nat} {x w : Str} {r : List Str} (hh : isNon hd = false) (hx : rows[k]? = some x) (h : BadW x w r) (hn : m_pot_in [.lst ((w :: r).map D.str)] = some (.ret .non)) : ∃ ρ', bRd (roR t rows (.fz hd) acc (.fz (Dn k)) e5 e6) = some (.ex (.badRow ((k : Int) + 1)) ρ') := by
  let ρ := fun (e6 : Ent) => roR t rows (.fz hd) acc (.fz (Dn k)) (.fz (.lst ((w :: r).map D.str))) e6
  have c1 : cRow (ρ e6) = some (.ok true) := row_live h.lv h.st
  have c2 : bT (eOp dIsN (eVarB 2) (eC .non)) (ρ e6) = some (.ok false) := bT_ev (op_ev (d := hd) (e := .non) rfl rfl (by show some (Except.ok (D.bl (isNon hd))) = _; rw [hh]))
  have s6 : sSet 6 (eCall (dDef 1 [] (dCall m_pot_in)) (aCons (eVar 5) aNil)) (ρ e6) = some (.nx (ρ (.fz .non))) := set_ev (i := 6) (call_ev (ds := [.lst ((w :: r).map D.str)]) rfl ((def_all rfl).trans (call_ret hn)))
  exact ⟨_, (seq_nx (wds_ev hx h.row)).trans (if_t c1 (if_f c2 ((seq_nx s6).trans (seq_ex (if_t (or_t rfl) (raise_ev rfl))))))⟩
theorem dup_pot {hd : D} {e5 e6 : Ent} {acc : List S} {k : Nat} {x : Str} {s : S} (hh : isNon hd = false) (hx : rows[k]? = some x) (h : Row x (potW s)) (ho : okSp s) (ha : ∀ a ∈ acc, okSp a) (hl : acc.length ≤ 8) (hn : s.nm ∈ acc.map (·.nm)) : ∃ ρ', bRd (roR t rows (.fz hd) acc (.fz (Dn k)) e5 e6) = some (.ex (.badRow ((k : Int) + 1)) ρ') := by
  obtain ⟨w, r, hw, hst, hsm⟩ := potW_sm ho.1 ho.2.2
  let ρ := fun (e6 : Ent) => roR t rows (.fz hd) acc (.fz (Dn k)) (.fz (.lst ((potW s).map D.str))) e6
  have c1 : cRow (ρ e6) = some (.ok true) := by
    show cRow (roR t rows (.fz hd) acc (.fz (Dn k)) (.fz (.lst ((potW s).map D.str))) e6) = _
    rw [hw] at hsm ⊢
    exact row_live (Sm_Lv hsm) hst
  have c2 : bT (eOp dIsN (eVarB 2) (eC .non)) (ρ e6) = some (.ok false) := bT_ev (op_ev (d := hd) (e := .non) rfl rfl (by show some (Except.ok (D.bl (isNon hd))) = _; rw [hh]))
  have s6 : sSet 6 (eCall (dDef 1 [] (dCall m_pot_in)) (aCons (eVar 5) aNil)) (ρ e6) = some (.nx (ρ (.fz s.p.d))) := set_ev (i := 6) (call_ev (ds := [.lst ((potW s).map D.str)]) rfl ((def_all rfl).trans (call_ret (potin_is ho.1 ho.2.1))))
  have hnon : isNon s.p.d = false := by
    unfold P.d
    cases s.p.rest <;> rfl
  have c3 : bT (eOp dIsN (eVarB 6) (eC .non)) (ρ (.fz s.p.d)) = some (.ok false) := bT_ev (op_ev (d := s.p.d) (e := .non) rfl rfl (by show some (Except.ok (D.bl (isNon s.p.d))) = _; rw [hnon]))
  have e1' : (acc.map S.p).map (·.nm) = acc.map (·.nm) := by rw [List.map_map]; rfl
  have c4 : bLend 3 (bT (eOp dIn (e1 (dFld "name") (eVarB 6)) (eLc [8] (gN 8) (iOf (eVar 3)) bYes (e1 (dFld "name") (eVarB 8))))) (ρ (.fz s.p.d)) = some (.ok true) := by
    show bT (eOp dIn (e1 (dFld "name") (eVarB 6)) (eLc [8] (gN 8) (iOf (eVar 3)) bYes (e1 (dFld "name") (eVarB 8)))) [.fz t, .fz (.lst (rows.map D.str)), .fz hd, .fz (.lst ((acc.map S.p).map P.d)), .fz (Dn k), .fz (.lst ((potW s).map D.str)), .fz s.p.d, .un, .un] = _
    refine bT_ev (op_ev (d := .str s.nm) (e1_ev (d := s.p.d) rfl s.p.name_is) (nms_ev (ps := acc.map S.p) rfl (by rw [List.length_map]; omega) fun d => ⟨_, rfl, rfl⟩) ((in_nm ho.2.2 ⟨fun w hm => ?_, ?_⟩).trans ?_))
    · rw [e1'] at hm
      obtain ⟨a, hq, rfl⟩ := List.mem_map.mp hm
      exact (ha a hq).2.2
    · rw [List.length_map, List.length_map]; omega
    · rw [e1', decide_eq_true hn]
  exact ⟨_, (seq_nx (wds_ev hx h)).trans (if_t c1 (if_f c2 ((seq_nx s6).trans (seq_ex (if_t (or_f c3 c4) (raise_ev rfl))))))⟩
def thenF (o : Option Fl) (g : Ro → Option Fl) : Option Fl := match o with
  | some (.nx ρ) => g ρ
  | o => o
theorem then_nx {g : Ro → Option Fl} {ρ : Ro} : thenF (some (.nx ρ)) g = g ρ := rfl
theorem seq_then {g1 g2 : Ro → Option Fl} {ρ : Ro} : sSeq g1 g2 ρ = thenF (g1 ρ) g2 := by
  unfold sSeq thenF
  cases g1 ρ with
  | none => rfl
  | some f => cases f <;> rfl
theorem read_st {x : Str} (hx : x.length ≤ 100000) (hs : Txt.split x ⟨#[10]⟩ = rows) (hl : rows.length ≤ 1000) {g : Ro → Option Fl} : (sSeq (sSet 1 (eMt dSplit (eVarB 0) (aCons (eC (.str "\n")) aNil))) (sSeq (sSet 2 (eC .non)) (sSeq (sSetO 3 (eLst aNil)) (sSeq (sFor (gN 4) (iRg dRng1 (aCons (eCall dLen (aCons (eVarB 1) aNil)) aNil)) bRd) g)))) (startE 9 [.str x]) =
    thenF (forD (gN 4) bRd ((List.range' 0 rows.length).map Dn) (roR (.str x) rows (.fz .non) [] .un .un .un)) g := by
  have s1 : sSet 1 (eMt dSplit (eVarB 0) (aCons (eC (.str "\n")) aNil)) (startE 9 [.str x]) = some (.nx [.fz (.str x), .fz (.lst (rows.map D.str)), .un, .un, .un, .un, .un, .un, .un]) :=
    set_ev (i := 1) (mt_ev (z := x) (ds := [.str ⟨#[10]⟩]) rfl (a_cons (by rw [← nl_is]; rfl) rfl) ((split_ev hx).trans (by rw [hs])))
  have fr : iRg dRng1 (aCons (eCall dLen (aCons (eVarB 1) aNil)) aNil) (roR (.str x) rows (.fz .non) [] .un .un .un) = some (.ok ((List.range' 0 rows.length).map Dn)) := by
    refine rg_ev (ds := [Dn rows.length]) (a_cons (call_ev (ds := [.lst (rows.map D.str)]) rfl ?_) rfl) (rng1_is rows.length (by omega))
    show some (Except.ok (D.int ((rows.map D.str).length : Nat))) = _
    rw [List.length_map]
  refine (seq_nx s1).trans ((seq_nx (ρ' := [.fz (.str x), .fz (.lst (rows.map D.str)), .fz .non, .un, .un, .un, .un, .un, .un]) rfl).trans ((seq_nx (ρ' := roR (.str x) rows (.fz .non) [] .un .un .un) rfl).trans ?_))
  exact seq_then.trans (congrArg (fun o => thenF o g) (for_ev fr rfl))
theorem read_ex {x : Str} {y : Xn} {ρ' : Ro} (hx : x.length ≤ 100000) (hs : Txt.split x ⟨#[10]⟩ = rows) (hl : rows.length ≤ 1000) (hf : forD (gN 4) bRd ((List.range' 0 rows.length).map Dn) (roR (.str x) rows (.fz .non) [] .un .un .un) = some (.ex y ρ')) : m_read [.str x] = some (.exc y) := by
  have h := read_st hx hs hl (g := (sSeq (sIf (bT (eOp dIsN (eVarB 2) (eC .non)))
      (sRaiseF .badRow (eOp dAddU (eCall dLen (aCons (eVarB 1) aNil)) (eC (.int 1))))
      sNil)
    (sTryR ct_TooMany
      (frz 3 (sSet 7 (eCall (dDef 4 [] (dMake mi_Garden .garden)) (aCons (eVar 3) (aCons (eOp dIx (eVarB 2) (eC (.int 0))) (aCons (eOp dIx (eVarB 2) (eC (.int 1))) (aCons (eOp dIx (eVarB 2) (eC (.int 2))) aNil)))))))
      (sRaiseF .badRow (eOp dAddU (eCall dLen (aCons (eVarB 1) aNil)) (eC (.int 1))))
      (sRet (eVar 7)))))
  rw [hf] at h
  exact (congrArg outOf h).trans rfl
/-- a row that tells no pot, at any place behind the first -/
theorem read_bad {c wk cl : Nat} (hc : c ≤ 8) (hw : wk ≤ 14) (hcl : cl < 2 ^ wk) {pre post : List Str} {s1 : List S} {x0 x : Str} (h : RdH c wk cl pre s1) (ho : ∀ s ∈ s1, okSp s) (h8 : s1.length ≤ 8) (hn : (s1.map (·.nm)).Nodup)
    (hx : x.length ≤ 100000) (hs : Txt.split x ⟨#[10]⟩ = pre ++ x0 :: post) (hl : (pre ++ x0 :: post).length ≤ 1000)
    (hb : (∃ w r, BadW x0 w r ∧ m_pot_in [.lst ((w :: r).map D.str)] = some (.ret .non)) ∨ ∃ s, Row x0 (potW s) ∧ okSp s ∧ s.nm ∈ s1.map (·.nm)) : m_read [.str x] = some (.exc (.badRow ((pre.length : Int) + 1))) := by
  obtain ⟨a, b, d, hf⟩ := rdH_go (t := .str x) (rows := pre ++ x0 :: post) hc hw hcl h (x0 :: post) 0 (post.length + 1) .un .un .un rfl ho (by omega) hn
  rw [Nat.zero_add] at hf
  have hx0 : (pre ++ x0 :: post)[pre.length]? = some x0 := by rw [List.getElem?_append_right (Nat.le_refl _), Nat.sub_self]; rfl
  have hlen : (pre ++ x0 :: post).length = pre.length + (post.length + 1) := by rw [List.length_append, List.length_cons]
  have key : ∃ ρ', bRd (roR (.str x) (pre ++ x0 :: post) (.fz (.tup [Dn c, Dn wk, Dn cl])) s1 (.fz (Dn pre.length)) b d) = some (.ex (.badRow ((pre.length : Int) + 1)) ρ') := by
    rcases hb with ⟨w, r, h1, h2⟩ | ⟨s, h1, h2, h3⟩
    · exact bad_pot rfl hx0 h1 h2
    · exact dup_pot rfl hx0 h1 h2 ho h8 h3
  obtain ⟨ρ', hb'⟩ := key
  refine read_ex (ρ' := ρ') hx hs hl ?_
  rw [hlen, hf, List.range'_succ, List.map_cons]
  exact for_ex (ρ1 := roR (.str x) (pre ++ x0 :: post) (.fz (.tup [Dn c, Dn wk, Dn cl])) s1 (.fz (Dn pre.length)) b d) rfl hb'
/-- a first row that tells nothing -/
theorem read_badH {pre post : List Str} {x0 x w : Str} {r : List Str} (hp : ∀ y ∈ pre, Skip y) (hx : x.length ≤ 100000) (hs : Txt.split x ⟨#[10]⟩ = pre ++ x0 :: post) (hl : (pre ++ x0 :: post).length ≤ 1000)
    (h1 : BadW x0 w r) (h2 : m_head_in [.lst ((w :: r).map D.str)] = some (.ret .non)) : m_read [.str x] = some (.exc (.badRow ((pre.length : Int) + 1))) := by
  obtain ⟨a, b, d, hf⟩ := rdS_go (t := .str x) (rows := pre ++ x0 :: post) (e2 := .fz .non) (acc := []) pre (x0 :: post) 0 (post.length + 1) .un .un .un hp rfl
  rw [Nat.zero_add] at hf
  have hx0 : (pre ++ x0 :: post)[pre.length]? = some x0 := by rw [List.getElem?_append_right (Nat.le_refl _), Nat.sub_self]; rfl
  have hlen : (pre ++ x0 :: post).length = pre.length + (post.length + 1) := by rw [List.length_append, List.length_cons]
  obtain ⟨ρ', hb'⟩ := bad_head (t := .str x) (e5 := b) (e6 := d) hx0 h1 h2
  refine read_ex (ρ' := ρ') hx hs hl ?_
  rw [hlen, hf, List.range'_succ, List.map_cons]
  exact for_ex (ρ1 := roR (.str x) (pre ++ x0 :: post) (.fz .non) [] (.fz (Dn pre.length)) b d) rfl hb'
theorem read_is {ss : List S} {cans : Int} {wk cl : Nat} {ks : List (Str × Int)} (h : Sok ss cans wk cl) (hk : namesS (ss.map (·.nm)) [] = some ks) (hsm : ∀ s ∈ ss, smD (.str s.nm) = true) {x : Str} (hx : x.length ≤ 100000) (hs : Txt.split x ⟨#[10]⟩ = rows) (hr : RdH cans.toNat wk cl rows ss) (hl : rows.length ≤ 1000) : m_read [.str x] = some (.ret (gdD (ss.map S.p) cans wk cl ks)) := by
  have hcn := h.cn
  have h8 := h.n8
  have e1 : ((cans.toNat : Nat) : Int) = cans := Int.toNat_of_nonneg hcn.1
  obtain ⟨a, b, c, hf⟩ := rdH_go (t := .str x) (rows := rows) (c := cans.toNat) (by omega) h.w.2 h.c hr [] 0 0 .un .un .un (by rw [List.append_nil]; rfl) (fun s hs => ⟨h.g s hs, h.nm s hs, hsm s hs⟩) (by omega) (names_ord hk).2.2
  rw [Nat.add_zero, Nat.zero_add] at hf
  have hf' : forD (gN 4) bRd ((List.range' 0 rows.length).map Dn) (roR (.str x) rows (.fz .non) [] .un .un .un) = some (.nx (roR (.str x) rows (.fz (.tup [Dn cans.toNat, Dn wk, Dn cl])) ss a b c)) := hf
  let hd : D := .tup [Dn cans.toNat, Dn wk, Dn cl]
  let ρf : Ro := [.fz (.str x), .fz (.lst (rows.map D.str)), .fz hd, .fz (.lst ((ss.map S.p).map P.d)), a, b, c, .un, .un]
  have i0 : eOp dIx (eVarB 2) (eC (.int 0)) ρf = some (.ok (.int cans)) := by
    rw [← e1]; rfl
  have s7 : sSet 7 (eCall (dDef 4 [] (dMake mi_Garden .garden)) (aCons (eVar 3) (aCons (eOp dIx (eVarB 2) (eC (.int 0))) (aCons (eOp dIx (eVarB 2) (eC (.int 1))) (aCons (eOp dIx (eVarB 2) (eC (.int 2))) aNil))))) ρf = some (.nx (ρf.set 7 (.fz (gdD (ss.map S.p) cans wk cl ks)))) :=
    set_ev (i := 7) (call_ev (ds := [.lst ((ss.map S.p).map P.d), .int cans, .int wk, .int cl]) (a_cons rfl (a_cons i0 rfl)) (mk_garden h hk))
  have h := read_st hx hs hl (g := (sSeq (sIf (bT (eOp dIsN (eVarB 2) (eC .non)))
      (sRaiseF .badRow (eOp dAddU (eCall dLen (aCons (eVarB 1) aNil)) (eC (.int 1))))
      sNil)
    (sTryR ct_TooMany
      (frz 3 (sSet 7 (eCall (dDef 4 [] (dMake mi_Garden .garden)) (aCons (eVar 3) (aCons (eOp dIx (eVarB 2) (eC (.int 0))) (aCons (eOp dIx (eVarB 2) (eC (.int 1))) (aCons (eOp dIx (eVarB 2) (eC (.int 2))) aNil)))))))
      (sRaiseF .badRow (eOp dAddU (eCall dLen (aCons (eVarB 1) aNil)) (eC (.int 1))))
      (sRet (eVar 7)))))
  rw [hf'] at h
  refine (congrArg outOf h).trans ?_
  have hfz : frz 3 (sSet 7 (eCall (dDef 4 [] (dMake mi_Garden .garden)) (aCons (eVar 3) (aCons (eOp dIx (eVarB 2) (eC (.int 0))) (aCons (eOp dIx (eVarB 2) (eC (.int 1))) (aCons (eOp dIx (eVarB 2) (eC (.int 2))) aNil)))))) (roR (.str x) rows (.fz hd) ss a b c) = some (.nx (ρf.set 7 (.fz (gdD (ss.map S.p) cans wk cl ks)))) := s7
  refine congrArg outOf (a₂ := some (.rt (gdD (ss.map S.p) cans wk cl ks))) ?_
  refine then_nx.trans ?_
  refine (seq_nx (if_f (r := some (.nx (roR (.str x) rows (.fz hd) ss a b c))) rfl rfl)).trans ?_
  unfold sTryR
  rw [hfz]
  rfl
end
end K09
namespace K09
open PySem PySem.Spec PyProof.Rows L2 Tw
/-! ### rows written -/
theorem ch_len (x : Str) : (ch x).length = x.length := rfl
theorem jn_len {b : Nat} {s : List Nat} : ∀ {l : List (List Nat)}, (∀ x ∈ l, x.length ≤ b) → (jn s l).length ≤ (b + s.length) * l.length
  | [], _ => by show 0 ≤ _; omega
  | [x], h => by
    have := h x List.mem_cons_self
    show x.length ≤ (b + s.length) * 1
    omega
  | x :: y :: r, h => by
    have h1 := h x List.mem_cons_self
    have h2 := jn_len (b := b) (s := s) (l := y :: r) fun z hz => h z (List.mem_cons_of_mem _ hz)
    show (x ++ s ++ jn s (y :: r)).length ≤ (b + s.length) * ((y :: r).length + 1)
    rw [List.length_append, List.length_append, Nat.mul_succ]
    omega
theorem join_ch (a : Str) (ys : List Str) : ch (Txt.join a ys) = jn (ch a) (ys.map ch) := by
  rw [show Txt.join a ys = Str.join a ys from StrLaws.glued_eq_join _ _]
  exact ch_join _ _
theorem join_len {b : Nat} {a : Str} {ys : List Str} (h : ∀ y ∈ ys, y.length ≤ b) : (Txt.join a ys).length ≤ (b + a.length) * ys.length := by
  have := jn_len (b := b) (s := ch a) (l := ys.map ch) fun x hx => by
    obtain ⟨y, hy, rfl⟩ := List.mem_map.mp hx
    exact h y hy
  rw [List.length_map, ← join_ch] at this
  exact this
theorem sum_len {b : Nat} : ∀ {ys : List Str}, (∀ y ∈ ys, y.length ≤ b) → (ys.map (·.length)).sum ≤ b * ys.length
  | [], _ => by simp
  | y :: ys, h => by
    have h1 := h y List.mem_cons_self
    have h2 := sum_len (b := b) (ys := ys) fun z hz => h z (List.mem_cons_of_mem _ hz)
    rw [List.map_cons, List.sum_cons, List.length_cons, Nat.mul_succ]
    omega
theorem strs_map : ∀ ys : List Str, strsOf (ys.map D.str) = some ys
  | [] => rfl
  | y :: ys => by
    show (strsOf (ys.map D.str)).map (y :: ·) = _
    rw [strs_map ys]; rfl
theorem join_ev {a : Str} {ys : List Str} (b : Nat) (h : ∀ y ∈ ys, y.length ≤ b) (hl : (b + a.length) * ys.length ≤ 16777216) : dJoin (.str a) [.lst (ys.map D.str)] = some (.ok (.str (Txt.join a ys))) := by
  show (match strsOf (ys.map D.str) with | some zs => if (List.map (fun z : Str => z.length) zs).sum + zs.length * a.length ≤ 16777216 then ok (D.str (Txt.join a zs)) else none | none => none) = _
  rw [strs_map]
  dsimp only
  have h1 := sum_len h
  rw [if_pos (by rw [Nat.add_mul] at hl; rw [Nat.mul_comm ys.length]; omega)]
  rfl
theorem sm_len {w : Str} (h : smD (.str w) = true) : w.length ≤ 12 := by
  simp only [smD, Bool.and_eq_true, decide_eq_true_eq] at h
  exact h.1
theorem Sm_len {ws : List Str} (h : Sm ws) : ∀ w ∈ ws, w.length ≤ 12 := fun w hw => sm_len (h.1 w hw)
theorem joinE {a : Str} {ws : List Str} {g : Ro → EM D} {f : Ro → EM D} {ρ : Ro} (h0 : g ρ = some (.ok (.str a))) (h : f ρ = some (.ok (.lst (ws.map D.str)))) (b : Nat) (hb : ∀ y ∈ ws, y.length ≤ b) (hl : (b + a.length) * ws.length ≤ 16777216) : eMt dJoin g (aCons f aNil) ρ = some (.ok (.str (Txt.join a ws))) :=
  mt_ev h0 (a_cons h rfl) (join_ev b hb hl)
def hdT (c wk cl : Nat) : Str := Txt.join " " (headW c wk cl)
def ptT (s : S) : Str := Txt.join " " (potW s)
def rowsT (ss : List S) (c wk cl : Nat) : List Str := hdT c wk cl :: ss.map ptT
def txtT (ss : List S) (c wk cl : Nat) : Str := Txt.join "\n" (rowsT ss c wk cl)
theorem one_sp : (" " : Str).length = 1 := rfl
theorem one_nl : ("\n" : Str).length = 1 := rfl
theorem Sm_bd {ws : List Str} (h : Sm ws) : (12 + (" " : Str).length) * ws.length ≤ 16777216 := by
  have := h.2
  have : 13 * ws.length ≤ 13 * 100 := Nat.mul_le_mul_left _ this
  show 13 * ws.length ≤ 16777216
  omega
theorem row_len {ws : List Str} (h : Sm ws) : (Txt.join " " ws).length ≤ 1300 := by
  have h1 := join_len (a := " ") (Sm_len h)
  have := h.2
  have h2 : 13 * ws.length ≤ 13 * 100 := Nat.mul_le_mul_left _ this
  have h1 : (Txt.join " " ws).length ≤ 13 * ws.length := h1
  omega
theorem spJ {ws : List Str} {f : Ro → EM D} {ρ : Ro} (hs : Sm ws) (h : f ρ = some (.ok (.lst (ws.map D.str)))) : eMt dJoin (eC (.str " ")) (aCons f aNil) ρ = some (.ok (.str (Txt.join " " ws))) := joinE rfl h 12 (Sm_len hs) (Sm_bd hs)
theorem cat_strs {xs ys : List Str} (h : xs.length + ys.length ≤ 1000) : dAddU (.lst (xs.map D.str)) (.lst (ys.map D.str)) = some (.ok (.lst ((xs ++ ys).map D.str))) := by
  show (if (xs.map D.str).length + (ys.map D.str).length ≤ sizeLine then ok (D.lst (xs.map D.str ++ ys.map D.str)) else none) = _
  rw [if_pos (by rw [List.length_map, List.length_map, sizeL]; omega), List.map_append]
  rfl
theorem strE {ρ : Ro} {f : Ro → EM D} {n : Nat} {i : Int} (hi : i = (n : Int)) (h : f ρ = some (.ok (.int i))) (hn : n < 1000) : eCall dStr (aCons f aNil) ρ = some (.ok (.str (sN n))) := str_ev (by rw [h, hi]) hn
theorem pw_ev {s : S} (hg : 1 ≤ s.gap ∧ s.gap ≤ 60 ∧ -1 ≤ s.rest ∧ s.rest < s.gap) {f : Ro → EM D} {ρ : Ro} (h : f ρ = some (.ok s.p.d)) : eMeth 1 tb_words dCall f aNil ρ = some (.ok (.lst ((potW s).map D.str))) := by
  have eg : s.gap = ((s.gap.toNat : Nat) : Int) := (Int.toNat_of_nonneg (by omega)).symm
  by_cases z : s.rest < 0
  · have e1 : s.p.d = .obj .pot [.str s.nm, .int s.gap] := by unfold S.p P.d; rw [if_pos z]
    have e2 : potW s = (["pot", s.nm, sN s.gap.toNat] : List Str) := by unfold potW; rw [if_pos z]
    rw [e1] at h
    rw [e2]
    refine meth_ev (m := m_Pot_words) (c := .pot) (cs := [.str s.nm, .int s.gap]) (ds := []) h rfl rfl rfl (call_ret (run_ret (ret_ev (lst_ev (n := 3) (a_cons rfl (a_cons (e1_ev (d := .obj .pot [.str s.nm, .int s.gap]) rfl rfl) (a_cons (strE eg (e1_ev (d := .obj .pot [.str s.nm, .int s.gap]) rfl rfl) (by omega)) rfl))) (Nat.le_refl 3)))))
  · have er : s.rest = ((s.rest.toNat : Nat) : Int) := (Int.toNat_of_nonneg (by omega)).symm
    have e1 : s.p.d = .obj .cactus [.str s.nm, .int s.gap, .int s.rest] := by unfold S.p P.d; rw [if_neg z]
    have e2 : potW s = (["cactus", s.nm, sN s.gap.toNat, sN s.rest.toNat] : List Str) := by unfold potW; rw [if_neg z]
    rw [e1] at h
    rw [e2]
    refine meth_ev (m := m_Cactus_words) (c := .cactus) (cs := [.str s.nm, .int s.gap, .int s.rest]) (ds := []) h rfl rfl rfl (call_ret (run_ret (ret_ev (lst_ev (n := 4) (a_cons rfl (a_cons (e1_ev (d := .obj .cactus [.str s.nm, .int s.gap, .int s.rest]) rfl rfl) (a_cons (strE eg (e1_ev (d := .obj .cactus [.str s.nm, .int s.gap, .int s.rest]) rfl rfl) (by omega)) (a_cons (strE er (e1_ev (d := .obj .cactus [.str s.nm, .int s.gap, .int s.rest]) rfl rfl) (by omega)) rfl)))) (Nat.le_refl 4)))))
abbrev bWr : Ro → Option Fl := (gdO 1 (sApp 1 (eCall dStr (aCons (eVarB 2) aNil))))
theorem wr_go {g : D} : ∀ (ws : List Nat) (acc : List Str) (e2 : Ent), (∀ p ∈ ws, p < 100) → acc.length + ws.length ≤ 1000 → ∃ e2', forD (gN 2) bWr (ws.map Dn) [.fz g, .ow (acc.map D.str), e2, .un] = some (.nx [.fz g, .ow ((acc ++ ws.map sN).map D.str), e2', .un])
  | [], acc, e2, _, _ => ⟨e2, by rw [List.map_nil, List.map_nil, List.append_nil]; rfl⟩
  | p :: ws, acc, e2, h, hl => by
    simp only [List.length_cons] at hl
    obtain ⟨e2', ih⟩ := wr_go (g := g) ws (acc ++ [sN p]) (.fz (Dn p)) (fun q hq => h q (List.mem_cons_of_mem _ hq)) (by rw [List.length_append, List.length_singleton]; omega)
    have hp := h p List.mem_cons_self
    refine ⟨e2', ?_⟩
    rw [List.map_cons]
    refine (for_cons (ρ1 := [.fz g, .ow (acc.map D.str), .fz (Dn p), .un]) (ρ2 := [.fz g, .ow ((acc ++ [sN p]).map D.str), .fz (Dn p), .un]) rfl ?_).trans (ih.trans ?_)
    · rw [List.map_append]
      exact app_ev (i := 1) (ds := acc.map D.str) (d := .str (sN p)) rfl (str_ev rfl (by omega)) (by rw [List.length_map]; omega)
    · rw [List.append_assoc]; rfl
section
variable {ss : List S} {cans : Int} {wk cl : Nat} {ks : List (Str × Int)}
theorem rows_len (h : Sok ss cans wk cl) (hsm : ∀ s ∈ ss, smD (.str s.nm) = true) : ∀ y ∈ rowsT ss cans.toNat wk cl, y.length ≤ 1300 := fun y hy => by
  have hcn := h.cn
  rcases List.mem_cons.mp hy with rfl | hy
  · exact row_len (headW_sm (by omega) h.w.2)
  · obtain ⟨s, hs, rfl⟩ := List.mem_map.mp hy
    obtain ⟨w, r, _, _, k⟩ := potW_sm (h.g s hs) (hsm s hs)
    exact row_len k
theorem nlJ {ws : List Str} {f : Ro → EM D} {ρ : Ro} (h1 : ∀ y ∈ ws, y.length ≤ 1300) (h2 : ws.length ≤ 9) (h : f ρ = some (.ok (.lst (ws.map D.str)))) : eMt dJoin (eC (.str "\n")) (aCons f aNil) ρ = some (.ok (.str (Txt.join "\n" ws))) :=
  joinE rfl h 1300 h1 (by show 1301 * ws.length ≤ _; omega)
theorem rowsT_len (h : Sok ss cans wk cl) : (rowsT ss cans.toNat wk cl).length = ss.length + 1 := by
  show (ss.map ptT).length + 1 = _
  rw [List.length_map]
theorem written_is (h : Sok ss cans wk cl) (hsm : ∀ s ∈ ss, smD (.str s.nm) = true) : m_written [gdD (ss.map S.p) cans wk cl ks] = some (.ret (.str (txtT ss cans.toNat wk cl))) := by
  have hcn := h.cn
  have hw := h.w
  have ec : cans = ((cans.toNat : Nat) : Int) := (Int.toNat_of_nonneg hcn.1).symm
  have hwl := wet_len wk cl
  let g := gdD (ss.map S.p) cans wk cl ks
  let ρ0 : Ro := [.fz g, .ow ((["garden", sN cans.toNat, sN wk] : List Str).map D.str), .un, .un]
  have s1 : sSetO 1 (eLst (aCons (eC (.str "garden")) (aCons (eCall dStr (aCons (e1 (dFld "cans") (eVarB 0)) aNil)) (aCons (eCall dStr (aCons (e1 (dFld "week") (eVarB 0)) aNil)) aNil)))) (startE 4 [g]) = some (.nx ρ0) := by
    have := lst_ev (fs := aCons (eC (.str "garden")) (aCons (eCall dStr (aCons (e1 (dFld "cans") (eVarB 0)) aNil)) (aCons (eCall dStr (aCons (e1 (dFld "week") (eVarB 0)) aNil)) aNil))) (ρ := startE 4 [g]) (ds := [.str "garden", .str (sN cans.toNat), .str (sN wk)]) (n := 3) (a_cons rfl (a_cons (strE ec (e1_ev (d := g) rfl rfl) (by omega)) (a_cons (strE rfl (e1_ev (d := g) rfl rfl) (by omega)) rfl))) (Nat.le_refl 3)
    unfold sSetO
    rw [this, toS_ok]
    rfl
  obtain ⟨e2, hf⟩ := wr_go (g := g) (wet wk cl) ["garden", sN cans.toNat, sN wk] .un (fun p hp => by have := (wet_mem.mp hp).1; omega) (by show 3 + _ ≤ _; omega)
  have hb : iOf (eCall (dDef 1 [] (dCall m_bits_of)) (aCons (e1 (dFld "closed") (eVarB 0)) aNil)) ρ0 = some (.ok ((wet wk cl).map Dn)) :=
    iof_ev (call_ev (ds := [Dn cl]) (a_cons (e1_ev (d := g) rfl rfl) rfl) ((def_all rfl).trans (call_reto (bits_is h.c (by omega)))))
  let ρ1 : Ro := [.fz g, .ow ((headW cans.toNat wk cl).map D.str), e2, .un]
  have h1 : eLst (aCons (eMt dJoin (eC (.str " ")) (aCons (eVarB 1) aNil)) aNil) ρ1 = some (.ok (.lst ([hdT cans.toNat wk cl].map D.str))) :=
    lst_ev (n := 1) (a_cons (spJ (headW_sm (by omega) hw.2) rfl) rfl) (Nat.le_refl 1)
  have h2 : eLc [3] (gN 3) (iOf (e1 (dFld "pots") (eVarB 0))) bYes (eMt dJoin (eC (.str " ")) (aCons (eMeth 1 tb_words dCall (eVar 3) aNil) aNil)) ρ1 = some (.ok (.lst ((ss.map ptT).map D.str))) := by
    refine lc_ev (ds := (ss.map S.p).map P.d) (iof_ev (e1_ev (d := g) rfl rfl)) ?_ (by rw [List.length_map, List.length_map]; have := h.n8; omega)
    have key : ∀ l : List S, (∀ s ∈ l, s ∈ ss) → lcD (gN 3) bYes (eMt dJoin (eC (.str " ")) (aCons (eMeth 1 tb_words dCall (eVar 3) aNil) aNil)) (wipeE ρ1 [3]) ((l.map S.p).map P.d) = some ((l.map ptT).map D.str) := fun l => by
      induction l with
      | nil => exact fun _ => rfl
      | cons s l ih =>
        intro hm
        have hs := hm s List.mem_cons_self
        obtain ⟨w, r, _, _, k⟩ := potW_sm (h.g s hs) (hsm s hs)
        rw [List.map_cons, List.map_cons]
        unfold lcD
        rw [show gN 3 s.p.d (wipeE ρ1 [3]) = some [.fz g, .ow ((headW cans.toNat wk cl).map D.str), e2, .fz s.p.d] from rfl]
        dsimp only
        rw [show bYes [.fz g, .ow ((headW cans.toNat wk cl).map D.str), e2, .fz s.p.d] = some (.ok true) from rfl]
        dsimp only
        rw [spJ k (pw_ev (h.g s hs) rfl)]
        dsimp only
        rw [ih fun x hx => hm x (List.mem_cons_of_mem _ hx)]
        rfl
    exact key ss fun s hs => hs
  refine run_ret ((seq_nx s1).trans ((seq_nx (for_ev hb hf)).trans (ret_ev (nlJ (rows_len h hsm) (by rw [rowsT_len h]; have := h.n8; omega) (op_ev h1 h2 (cat_strs (by rw [List.length_map]; have := h.n8; show 1 + _ ≤ _; omega)))))))
/-! the law's plain text -/
abbrev bPl : Ro → Option Fl := (gdO 2 (sApp 2 (eMt dJoin (eC (.str " ")) (aCons (eIf (bT (eOp dLt (eVarB 5) (eC (.int 0)))) (eLst (aCons (eC (.str "pot")) (aCons (eVar 3) (aCons (eCall dStr (aCons (eVarB 4) aNil)) aNil)))) (eLst (aCons (eC (.str "cactus")) (aCons (eVar 3) (aCons (eCall dStr (aCons (eVarB 4) aNil)) (aCons (eCall dStr (aCons (eVarB 5) aNil)) aNil)))))) aNil))))
theorem pl_go {sp c1 : D} : ∀ (l : List S) (acc : List Str) (e3 e4 e5 : Ent), (∀ s ∈ l, (1 ≤ s.gap ∧ s.gap ≤ 60 ∧ -1 ≤ s.rest ∧ s.rest < s.gap) ∧ smD (.str s.nm) = true) → acc.length + l.length ≤ 1000 →
    ∃ e3' e4' e5', forD (gT (gsC (gN 3) (gsC (gN 4) (gsC (gN 5) gs0))) 3) bPl (l.map S.d) [.fz sp, .fz c1, .ow (acc.map D.str), e3, e4, e5, .un] = some (.nx [.fz sp, .fz c1, .ow ((acc ++ l.map ptT).map D.str), e3', e4', e5', .un])
  | [], acc, e3, e4, e5, _, _ => ⟨e3, e4, e5, by rw [List.map_nil, List.map_nil, List.append_nil]; rfl⟩
  | s :: l, acc, e3, e4, e5, h, hl => by
    simp only [List.length_cons] at hl
    obtain ⟨hg, hn⟩ := h s List.mem_cons_self
    obtain ⟨f3, f4, f5, ih⟩ := pl_go (sp := sp) (c1 := c1) l (acc ++ [ptT s]) (.fz (.str s.nm)) (.fz (.int s.gap)) (.fz (.int s.rest)) (fun q hq => h q (List.mem_cons_of_mem _ hq)) (by rw [List.length_append, List.length_singleton]; omega)
    obtain ⟨w, r, _, _, k⟩ := potW_sm hg hn
    have eg : s.gap = ((s.gap.toNat : Nat) : Int) := (Int.toNat_of_nonneg (by omega)).symm
    let ρ1 : Ro := [.fz sp, .fz c1, .ow (acc.map D.str), .fz (.str s.nm), .fz (.int s.gap), .fz (.int s.rest), .un]
    have hif : eIf (bT (eOp dLt (eVarB 5) (eC (.int 0)))) (eLst (aCons (eC (.str "pot")) (aCons (eVar 3) (aCons (eCall dStr (aCons (eVarB 4) aNil)) aNil)))) (eLst (aCons (eC (.str "cactus")) (aCons (eVar 3) (aCons (eCall dStr (aCons (eVarB 4) aNil)) (aCons (eCall dStr (aCons (eVarB 5) aNil)) aNil))))) ρ1 = some (.ok (.lst ((potW s).map D.str))) := by
      have hc : bT (eOp dLt (eVarB 5) (eC (.int 0))) ρ1 = some (.ok (decide (s.rest < 0))) := bT_ev (op_ev (d := .int s.rest) (e := .int 0) rfl rfl rfl)
      unfold eIf
      rw [hc, bnd_ok]
      by_cases z : s.rest < 0
      · rw [if_pos (decide_eq_true z)]
        unfold potW
        rw [if_pos z]
        exact lst_ev (n := 3) (a_cons rfl (a_cons rfl (a_cons (strE eg rfl (by omega)) rfl))) (Nat.le_refl 3)
      · have er : s.rest = ((s.rest.toNat : Nat) : Int) := (Int.toNat_of_nonneg (by omega)).symm
        rw [if_neg (by rw [decide_eq_false z]; decide)]
        unfold potW
        rw [if_neg z]
        exact lst_ev (n := 4) (a_cons rfl (a_cons rfl (a_cons (strE eg rfl (by omega)) (a_cons (strE er rfl (by omega)) rfl)))) (Nat.le_refl 4)
    refine ⟨f3, f4, f5, ?_⟩
    rw [List.map_cons]
    refine (for_cons (ρ1 := ρ1) (ρ2 := [.fz sp, .fz c1, .ow ((acc ++ [ptT s]).map D.str), .fz (.str s.nm), .fz (.int s.gap), .fz (.int s.rest), .un]) rfl ?_).trans (ih.trans ?_)
    · rw [List.map_append]
      exact app_ev (i := 2) (ds := acc.map D.str) (d := .str (ptT s)) rfl (spJ k hif) (by rw [List.length_map]; omega)
    · rw [List.append_assoc]; rfl
end
end K09
namespace K09
open PySem PySem.Spec PyProof.Rows L2 Tw
/-! ### a loose text -/
def spN (n : Nat) : Str := repS " " (n : Int)
theorem spN_all : (List.range 4).all (fun n => decide (ch (spN n) = List.replicate n 32)) = true := by decide +kernel
theorem spN_ch {n : Nat} (h : n < 4) : ch (spN n) = List.replicate n 32 := of_decide_eq_true (List.all_eq_true.mp spN_all n (List.mem_range.mpr h))
theorem spN_len {n : Nat} (h : n < 4) : (spN n).length = n := by rw [← ch_len, spN_ch h, List.length_replicate]
theorem mul_sp {f : Ro → EM D} {ρ : Ro} {n : Nat} (h : f ρ = some (.ok (Dn n))) (hn : n < 4) : eOp dMulS (eC (.str " ")) f ρ = some (.ok (.str (spN n))) := by
  refine op_ev (d := .str " ") (e := Dn n) rfl h ?_
  show (if 0 ≤ (n : Int) ∧ (n : Int) ≤ 100 ∧ (" " : Str).length ≤ 100 then ok (D.str (repS " " n)) else none) = _
  rw [if_pos ⟨by omega, by omega, by decide⟩]
  rfl
def wdB (x : Str) (ws : List Str) : Bool := (let ps := (Txt.split x ⟨#[32]⟩).map ch; !ps.isEmpty && (ps.all (fun p => !p.contains 32) && (decide (jn [32] ps = ch x) && decide (ps.filter (fun p => decide (p ≠ [])) = ws.map ch))))
theorem wdB_is {x : Str} {ws : List Str} (h : wdB x ws = true) : Wd (ch x) (ws.map ch) := by
  unfold wdB at h
  simp only [Bool.and_eq_true, decide_eq_true_eq] at h
  obtain ⟨h1, h2, h3, h4⟩ := h
  exact ⟨_, by simpa using h1, (fun p hp => by have := List.all_eq_true.mp h2 p hp; simpa using this), h3, h4⟩
def sk6 : List Str := ["", "  ", "# pot q 1", "  #", "#q", " ##"]
def skB (x : Str) (ws : List Str) : Bool := wdB x ws && (decide (x.length ≤ 10) && (ws.all (fun w => smD (.str w)) && (decide (ws.length ≤ 100) && ((match ws with | [] => true | w :: _ => Txt.startswith w "#") && !(ch x).contains 10))))
theorem skB_is {x : Str} {ws : List Str} (h : skB x ws = true) : Skip x ∧ x.length ≤ 10 ∧ 10 ∉ ch x := by
  unfold skB at h
  simp only [Bool.and_eq_true, decide_eq_true_eq] at h
  obtain ⟨h1, h2, h3, h4, h5, h6⟩ := h
  refine ⟨⟨ws, ⟨wdB_is h1, by omega⟩, ⟨fun w hw => List.all_eq_true.mp h3 w hw, h4⟩, ?_⟩, h2, by simpa using h6⟩
  cases ws with
  | nil => exact .inl rfl
  | cons w r => exact .inr ⟨w, r, rfl, h5⟩
theorem sk6_ok {x : Str} (h : x ∈ sk6) : Skip x ∧ x.length ≤ 10 ∧ 10 ∉ ch x := by
  unfold sk6 at h
  simp only [List.mem_cons, List.not_mem_nil, or_false] at h
  rcases h with rfl | rfl | rfl | rfl | rfl | rfl
  · exact skB_is (ws := []) (by decide +kernel)
  · exact skB_is (ws := []) (by decide +kernel)
  · exact skB_is (ws := ["#", "pot", "q", "1"]) (by decide +kernel)
  · exact skB_is (ws := ["#"]) (by decide +kernel)
  · exact skB_is (ws := ["#q"]) (by decide +kernel)
  · exact skB_is (ws := ["##"]) (by decide +kernel)
theorem rem_ok : Skip "#" ∧ ("#" : Str).length ≤ 10 ∧ 10 ∉ ch "#" := skB_is (ws := ["#"]) (by decide +kernel)
theorem sk6_ix {v : Int} (h : 0 ≤ v ∧ v < 6) : ∃ x, x ∈ sk6 ∧ dIx (.tup [.str "", .str "  ", .str "# pot q 1", .str "  #", .str "#q", .str " ##"]) (.int v) = some (.ok (.str x)) := by
  have : v = 0 ∨ v = 1 ∨ v = 2 ∨ v = 3 ∨ v = 4 ∨ v = 5 := by omega
  rcases this with rfl | rfl | rfl | rfl | rfl | rfl
  · exact ⟨"", by simp [sk6], rfl⟩
  · exact ⟨"  ", by simp [sk6], rfl⟩
  · exact ⟨"# pot q 1", by simp [sk6], rfl⟩
  · exact ⟨"  #", by simp [sk6], rfl⟩
  · exact ⟨"#q", by simp [sk6], rfl⟩
  · exact ⟨" ##", by simp [sk6], rfl⟩
/-- a row's words -/
def Wk (ws : List Str) : Prop := (∀ w ∈ ws, 32 ∉ ch w ∧ 10 ∉ ch w ∧ ch w ≠ []) ∧ ws ≠ [] ∧ Sm ws
theorem jn_mem {c : Nat} {s : List Nat} : ∀ {l : List (List Nat)}, c ∈ jn s l → c ∈ s ∨ ∃ p ∈ l, c ∈ p
  | [], h => nomatch h
  | [x], h => .inr ⟨x, List.mem_cons_self, h⟩
  | x :: y :: r, h => by
    have h : c ∈ x ++ s ++ jn s (y :: r) := h
    rcases List.mem_append.mp h with h | h
    · rcases List.mem_append.mp h with h | h
      · exact .inr ⟨x, List.mem_cons_self, h⟩
      · exact .inl h
    · rcases jn_mem h with h | ⟨p, hp, hc⟩
      · exact .inl h
      · exact .inr ⟨p, List.mem_cons_of_mem _ hp, hc⟩
theorem Wk_row {ws : List Str} (h : Wk ws) {a g b : Nat} (ha : a < 4) (hg : 1 ≤ g ∧ g < 4) (hb : b < 4) : Row (spN a ++ Txt.join (spN g) ws ++ spN b) ws ∧ 10 ∉ ch (spN a ++ Txt.join (spN g) ws ++ spN b) ∧ (spN a ++ Txt.join (spN g) ws ++ spN b).length ≤ 2000 := by
  have e : ch (spN a ++ Txt.join (spN g) ws ++ spN b) = List.replicate a 32 ++ (jn (List.replicate g 32) (ws.map ch) ++ List.replicate b 32) := by
    rw [ch_app, ch_app, join_ch, spN_ch ha, spN_ch hg.2, spN_ch hb, List.append_assoc]
  have hl : (spN a ++ Txt.join (spN g) ws ++ spN b).length ≤ 2000 := by
    have h1 := jn_len (b := 12) (s := List.replicate g 32) (l := ws.map ch) fun x hx => by
      obtain ⟨w, hw, rfl⟩ := List.mem_map.mp hx
      exact Sm_len h.2.2 w hw
    rw [List.length_map, List.length_replicate] at h1
    have h2 := h.2.2.2
    have h3 : (12 + g) * ws.length ≤ 15 * 100 := Nat.mul_le_mul (by omega) h2
    rw [← ch_len, e, List.length_append, List.length_append, List.length_replicate, List.length_replicate]
    omega
  refine ⟨⟨?_, by omega⟩, ?_, hl⟩
  · rw [e]
    exact wd_sps (wd_jn hg.1 fun x hx => by
      obtain ⟨w, hw, rfl⟩ := List.mem_map.mp hx
      have := h.1 w hw
      exact ⟨this.1, this.2.2⟩) a
  · rw [e]
    intro hc
    rcases List.mem_append.mp hc with hc | hc
    · have := (List.mem_replicate.mp hc).2; omega
    rcases List.mem_append.mp hc with hc | hc
    · rcases jn_mem hc with hc | ⟨p, hp, hc⟩
      · have := (List.mem_replicate.mp hc).2; omega
      · obtain ⟨w, hw, rfl⟩ := List.mem_map.mp hp
        exact (h.1 w hw).2.1 hc
    · have := (List.mem_replicate.mp hc).2; omega
theorem Wk_one {ws : List Str} (h : Wk ws) : Row (Txt.join " " ws) ws ∧ 10 ∉ ch (Txt.join " " ws) ∧ (Txt.join " " ws).length ≤ 2000 := by
  have := Wk_row h (a := 0) (g := 1) (b := 0) (by decide) (by decide) (by decide)
  have e : spN 0 ++ Txt.join (spN 1) ws ++ spN 0 = Txt.join " " ws := by
    apply ch_inj
    rw [ch_app, ch_app, join_ch, join_ch, spN_ch (by decide), spN_ch (by decide)]
    show [] ++ jn [32] _ ++ [] = _
    rw [List.append_nil, List.nil_append, sp_is]
    rfl
  rwa [e] at this
/-- rows made loose -/
inductive Lo : List (List Str) → List Str → Prop
  | nil : Lo [] []
  | cons {ws : List Str} {r : List (List Str)} {l out : List Str} {x : Str} : (∀ y ∈ l, y ∈ sk6) → l.length ≤ 2 → Row x ws → 10 ∉ ch x → x.length ≤ 2000 → Lo r out → Lo (ws :: r) (l ++ x :: out)
theorem Lo.bd {r : List (List Str)} {out : List Str} (h : Lo r out) : out.length ≤ 3 * r.length ∧ ∀ y ∈ out, y.length ≤ 2000 ∧ 10 ∉ ch y := by
  induction h with
  | nil => exact ⟨Nat.le_refl _, fun y hy => nomatch hy⟩
  | @cons ws r l out x h1 h2 h3 h4 h5 _ ih =>
    refine ⟨by rw [List.length_append, List.length_cons, List.length_cons]; omega, fun y hy => ?_⟩
    rcases List.mem_append.mp hy with hy | hy
    · have := sk6_ok (h1 y hy)
      exact ⟨by omega, this.2.2⟩
    · rcases List.mem_cons.mp hy with rfl | hy
      · exact ⟨h5, h4⟩
      · exact ih.2 y hy
theorem Lo.pots {ss : List S} {tl : List Str} (ht : ∀ x ∈ tl, Skip x) : ∀ {r : List (List Str)} {out : List Str}, Lo r out → r = ss.map potW → RdP (out ++ tl) ss := by
  intro r out h
  induction h generalizing ss with
  | nil =>
    intro e
    have : ss = [] := by
      cases ss with
      | nil => rfl
      | cons _ _ => cases e
    subst this
    have := RdP.nil.skips ht
    rwa [List.append_nil] at this
  | @cons ws r l out x h1 h2 h3 h4 h5 _ ih =>
    intro e
    cases ss with
    | nil => cases e
    | cons s ss =>
      injection e with e1 e2
      subst e1
      rw [List.append_assoc]
      exact (RdP.pot h3 (ih e2)).skips fun y hy => (sk6_ok (h1 y hy)).1
theorem Lo.all {ss : List S} {c wk cl : Nat} {tl : List Str} (ht : ∀ x ∈ tl, Skip x) {out : List Str} (h : Lo (headW c wk cl :: ss.map potW) out) : RdH c wk cl (out ++ tl) ss := by
  cases h with
  | cons h1 h2 h3 h4 h5 h6 =>
    rw [List.append_assoc]
    exact (RdH.head h3 (h6.pots ht rfl)).skips fun y hy => (sk6_ok (h1 y hy)).1
abbrev bSk : Ro → Option Fl := (gdO 2 (sApp 2 (eOp dIx (eTup (aCons (eC (.str "")) (aCons (eC (.str "  ")) (aCons (eC (.str "# pot q 1")) (aCons (eC (.str "  #")) (aCons (eC (.str "#q")) (aCons (eC (.str " ##")) aNil))))))) (eCall (dDef 3 [] (dCall m_law_draw)) (aCons (eOp dAddU (eOp dAddU (eVarB 1) (eVarB 3)) (eVarB 4)) (aCons (eC (.int 1)) (aCons (eC (.int 6)) aNil)))))))
abbrev bLo : Ro → Option Fl := (sSeq (sFor (gN 4) (iRg dRng1 (aCons (eCall (dDef 3 [] (dCall m_law_draw)) (aCons (eOp dAddU (eVarB 1) (eVarB 3)) (aCons (eC (.int 0)) (aCons (eC (.int 3)) aNil)))) aNil))
        bSk)
      (sSeq (sSet 5 (eOp dMulS (eC (.str " ")) (eOp dAddU (eC (.int 1)) (eCall (dDef 3 [] (dCall m_law_draw)) (aCons (eOp dAddU (eVarB 1) (eVarB 3)) (aCons (eC (.int 2)) (aCons (eC (.int 3)) aNil)))))))
      (sSeq (sSet 6 (eMt dJoin (eVarB 5) (aCons (eMt dSplit (eOp dIx (eVarB 0) (eVarB 3)) (aCons (eC (.str " ")) aNil)) aNil)))
      (gdO 2 (sApp 2 (eOp dAddU (eOp dAddU (eOp dMulS (eC (.str " ")) (eCall (dDef 3 [] (dCall m_law_draw)) (aCons (eOp dAddU (eVarB 1) (eVarB 3)) (aCons (eC (.int 3)) (aCons (eC (.int 3)) aNil))))) (eVarB 6)) (eOp dMulS (eC (.str " ")) (eCall (dDef 3 [] (dCall m_law_draw)) (aCons (eOp dAddU (eVarB 1) (eVarB 3)) (aCons (eC (.int 4)) (aCons (eC (.int 2)) aNil)))))))))))
section
variable {rows : List Str} {cell : Int}
abbrev roO (rows : List Str) (cell : Int) (found : List Str) (e3 e4 e5 e6 : Ent) : Ro := [.fz (.lst (rows.map D.str)), .fz (.int cell), .ow (found.map D.str), e3, e4, e5, e6]
theorem drawN {ρ : Ro} {f : Ro → EM D} {c : Int} (k : Int) (m : Nat) (hf : f ρ = some (.ok (.int c))) (hm : 0 < m) : ∃ v : Nat, v < m ∧ eCall (dDef 3 [] (dCall m_law_draw)) (aCons f (aCons (eC (.int k)) (aCons (eC (.int m)) aNil))) ρ = some (.ok (Dn v)) := by
  obtain ⟨v, v0, v1, hv⟩ := draw_is c k m (by omega)
  refine ⟨v.toNat, by omega, (call_ev (ds := [.int c, .int k, .int m]) (a_cons hf rfl) hv).trans ?_⟩
  show some (Except.ok (D.int v)) = some (Except.ok (D.int (v.toNat : Int)))
  rw [Int.toNat_of_nonneg v0]
theorem sk_go {k : Nat} {e5 e6 : Ent} : ∀ (m s : Nat) (acc : List Str) (e4 : Ent), acc.length + m ≤ 1000 → ∃ l e4', l.length = m ∧ (∀ y ∈ l, y ∈ sk6) ∧ forD (gN 4) bSk ((List.range' s m).map Dn) (roO rows cell acc (.fz (Dn k)) e4 e5 e6) = some (.nx (roO rows cell (acc ++ l) (.fz (Dn k)) e4' e5 e6))
  | 0, s, acc, e4, _ => ⟨[], e4, rfl, (fun y hy => nomatch hy), by rw [List.append_nil]; rfl⟩
  | m + 1, s, acc, e4, hl => by
    have ha : eOp dAddU (eOp dAddU (eVarB 1) (eVarB 3)) (eVarB 4) (roO rows cell acc (.fz (Dn k)) (.fz (Dn s)) e5 e6) = some (.ok (.int (cell + k + s))) := op_ev (d := .int (cell + k)) (e := Dn s) (op_ev (d := .int cell) (e := Dn k) rfl rfl rfl) rfl rfl
    obtain ⟨v, hv, ev⟩ := drawN 1 6 ha (by decide)
    obtain ⟨x, hx, ix⟩ := sk6_ix (v := v) ⟨by omega, by omega⟩
    obtain ⟨l, e4', h1, h2, hf⟩ := sk_go (k := k) (e5 := e5) (e6 := e6) m (s + 1) (acc ++ [x]) (.fz (Dn s)) (by rw [List.length_append, List.length_singleton]; omega)
    refine ⟨x :: l, e4', by rw [List.length_cons, h1], fun y hy => ?_, ?_⟩
    · rcases List.mem_cons.mp hy with rfl | hy
      · exact hx
      · exact h2 y hy
    · rw [List.range'_succ, List.map_cons]
      refine (for_cons (ρ1 := roO rows cell acc (.fz (Dn k)) (.fz (Dn s)) e5 e6) (ρ2 := roO rows cell (acc ++ [x]) (.fz (Dn k)) (.fz (Dn s)) e5 e6) rfl ?_).trans (hf.trans ?_)
      · rw [show roO rows cell (acc ++ [x]) (.fz (Dn k)) (.fz (Dn s)) e5 e6 = [.fz (.lst (rows.map D.str)), .fz (.int cell), .ow (acc.map D.str ++ [.str x]), .fz (Dn k), .fz (Dn s), e5, e6] from by unfold roO; rw [List.map_append]; rfl]
        exact app_ev (i := 2) (ds := acc.map D.str) (d := .str x) rfl (op_ev (d := .tup [.str "", .str "  ", .str "# pot q 1", .str "  #", .str "#q", .str " ##"]) (e := Dn v) rfl ev ix) (by rw [List.length_map]; omega)
      · rw [List.append_assoc]; rfl
theorem add_str {a b : Str} (h : a.length + b.length ≤ 100000) : dAddU (.str a) (.str b) = some (.ok (.str (a ++ b))) := by
  show (if a.length + b.length ≤ sizeLine then ok (D.str (a ++ b)) else none) = _
  rw [if_pos (by rw [sizeL]; omega)]
  rfl
theorem lo_step {k : Nat} {ws : List Str} {acc : List Str} {e4 e5 e6 : Ent} (hk : rows[k]? = some (Txt.join " " ws)) (hw : Wk ws) (hl : acc.length ≤ 900) : ∃ l x f4 f5 f6, (∀ y ∈ l, y ∈ sk6) ∧ l.length ≤ 2 ∧ (Row x ws ∧ 10 ∉ ch x ∧ x.length ≤ 2000) ∧ bLo (roO rows cell acc (.fz (Dn k)) e4 e5 e6) = some (.nx (roO rows cell (acc ++ (l ++ [x])) (.fz (Dn k)) f4 f5 f6)) := by
  have hck : ∀ (acc : List Str) (e4 e5 e6 : Ent), eOp dAddU (eVarB 1) (eVarB 3) (roO rows cell acc (.fz (Dn k)) e4 e5 e6) = some (.ok (.int (cell + k))) := fun acc e4 e5 e6 => op_ev (d := .int cell) (e := Dn k) rfl rfl rfl
  obtain ⟨m, hm, em⟩ := drawN 0 3 (hck acc e4 e5 e6) (by decide)
  obtain ⟨l, e4', h1, h2, hf⟩ := sk_go (rows := rows) (cell := cell) (k := k) (e5 := e5) (e6 := e6) m 0 acc e4 (by omega)
  obtain ⟨g, hg, eg⟩ := drawN 2 3 (hck (acc ++ l) e4' e5 e6) (by decide)
  have s5 : sSet 5 (eOp dMulS (eC (.str " ")) (eOp dAddU (eC (.int 1)) (eCall (dDef 3 [] (dCall m_law_draw)) (aCons (eOp dAddU (eVarB 1) (eVarB 3)) (aCons (eC (.int 2)) (aCons (eC (.int 3)) aNil)))))) (roO rows cell (acc ++ l) (.fz (Dn k)) e4' e5 e6) = some (.nx (roO rows cell (acc ++ l) (.fz (Dn k)) e4' (.fz (.str (spN (g + 1)))) e6)) := by
    refine set_ev (i := 5) (mul_sp (n := g + 1) (op_ev (d := .int 1) (e := Dn g) rfl eg ?_) (by omega))
    show some (Except.ok (D.int (1 + (g : Int)))) = some (Except.ok (D.int ((g + 1 : Nat) : Int)))
    rw [Int.natCast_add, Int.add_comm]; rfl
  have hsp : Txt.split (Txt.join " " ws) ⟨#[32]⟩ = ws := by
    rw [sp_is]
    exact split_join hw.2.1 fun p hp => (hw.1 p hp).1
  have hrl := (Wk_one hw).2.2
  have s6 : sSet 6 (eMt dJoin (eVarB 5) (aCons (eMt dSplit (eOp dIx (eVarB 0) (eVarB 3)) (aCons (eC (.str " ")) aNil)) aNil)) (roO rows cell (acc ++ l) (.fz (Dn k)) e4' (.fz (.str (spN (g + 1)))) e6) = some (.nx (roO rows cell (acc ++ l) (.fz (Dn k)) e4' (.fz (.str (spN (g + 1)))) (.fz (.str (Txt.join (spN (g + 1)) ws))))) := by
    refine set_ev (i := 6) (joinE (a := spN (g + 1)) rfl (mt_ev (z := Txt.join " " ws) (ds := [.str ⟨#[32]⟩]) (op_ev (d := .lst (rows.map D.str)) (e := Dn k) rfl rfl (ix_lst (by rw [List.getElem?_map, hk]; rfl))) (a_cons (by rw [← sp_is]; rfl) rfl) ((split_ev (by omega)).trans (by rw [hsp]))) 12 (Sm_len hw.2.2) ?_)
    have h3 := hw.2.2.2
    have h4 : (12 + (spN (g + 1)).length) * ws.length ≤ 15 * 100 := Nat.mul_le_mul (by rw [spN_len (by omega)]; omega) h3
    omega
  let W := Txt.join (spN (g + 1)) ws
  obtain ⟨a, ha, ea⟩ := drawN 3 3 (hck (acc ++ l) e4' (.fz (.str (spN (g + 1)))) (.fz (.str W))) (by decide)
  obtain ⟨b, hb, eb⟩ := drawN 4 2 (hck (acc ++ l) e4' (.fz (.str (spN (g + 1)))) (.fz (.str W))) (by decide)
  have hrow := Wk_row hw (a := a) (g := g + 1) (b := b) (by omega) (by omega) (by omega)
  have hxl : (spN a ++ W ++ spN b).length = (spN a).length + W.length + (spN b).length := by
    rw [← ch_len, ch_app, ch_app, List.length_append, List.length_append]; rfl
  have hlx : (spN a ++ W ++ spN b).length ≤ 2000 := hrow.2.2
  have hxw : (spN a ++ W).length = (spN a).length + W.length := by
    rw [← ch_len, ch_app, List.length_append]; rfl
  refine ⟨l, spN a ++ W ++ spN b, e4', .fz (.str (spN (g + 1))), .fz (.str W), h2, by omega, hrow, (seq_nx (for_ev (rg_ev (ds := [Dn m]) (a_cons em rfl) (rng1_is m (by omega))) hf)).trans ((seq_nx s5).trans ((seq_nx s6).trans ?_))⟩
  rw [show roO rows cell (acc ++ (l ++ [spN a ++ W ++ spN b])) (.fz (Dn k)) e4' (.fz (.str (spN (g + 1)))) (.fz (.str W)) = [.fz (.lst (rows.map D.str)), .fz (.int cell), .ow ((acc ++ l).map D.str ++ [.str (spN a ++ W ++ spN b)]), .fz (Dn k), e4', .fz (.str (spN (g + 1))), .fz (.str W)] from by unfold roO; rw [← List.append_assoc, List.map_append]; rfl]
  exact app_ev (i := 2) (ds := (acc ++ l).map D.str) (d := .str (spN a ++ W ++ spN b)) rfl (op_ev (d := .str (spN a ++ W)) (e := .str (spN b)) (op_ev (d := .str (spN a)) (e := .str W) (mul_sp ea (by omega)) rfl (add_str (by omega))) (mul_sp eb (by omega)) (add_str (by omega))) (by rw [List.length_map, List.length_append]; omega)
theorem lo_go : ∀ (r : List (List Str)) (k : Nat) (acc : List Str) (e3 e4 e5 e6 : Ent), rows.drop k = r.map (Txt.join " ") → (∀ ws ∈ r, Wk ws) → acc.length + 3 * r.length ≤ 500 → ∃ out f3 f4 f5 f6, Lo r out ∧ forD (gN 3) bLo ((List.range' k r.length).map Dn) (roO rows cell acc e3 e4 e5 e6) = some (.nx (roO rows cell (acc ++ out) f3 f4 f5 f6))
  | [], k, acc, e3, e4, e5, e6, _, _, _ => ⟨[], e3, e4, e5, e6, .nil, by rw [List.append_nil]; rfl⟩
  | ws :: r, k, acc, e3, e4, e5, e6, hd, hw, hl => by
    rw [List.length_cons] at hl
    obtain ⟨g1, g2⟩ := drop_get hd
    obtain ⟨l, x, f4, f5, f6, h1, h2, h3, hb⟩ := lo_step (cell := cell) (acc := acc) (e4 := e4) (e5 := e5) (e6 := e6) g1 (hw ws List.mem_cons_self) (by omega)
    obtain ⟨out, q3, q4, q5, q6, ho, hf⟩ := lo_go r (k + 1) (acc ++ (l ++ [x])) (.fz (Dn k)) f4 f5 f6 g2 (fun v hv => hw v (List.mem_cons_of_mem _ hv)) (by rw [List.length_append, List.length_append, List.length_singleton]; omega)
    refine ⟨l ++ x :: out, q3, q4, q5, q6, .cons h1 h2 h3.1 h3.2.1 h3.2.2 ho, ?_⟩
    rw [List.length_cons, List.range'_succ, List.map_cons]
    refine (for_cons (ρ1 := roO rows cell acc (.fz (Dn k)) e4 e5 e6) rfl hb).trans (hf.trans ?_)
    simp only [List.append_assoc, List.cons_append, List.nil_append]
end
end K09
namespace K09
open PySem PySem.Spec PyProof.Rows L2 Tw
/-! ### refused -/
theorem tryZ_nx {i : Nat} {ct : Xc → Option Bool} {gb : Ro → Option Fl} {gs : Xn → Ro → Option Fl} {ρ ρ' : Ro} (h : gb ρ = some (.nx ρ')) : sTryAsZ i ct gb gs ρ = some (.nx ρ') := by
  unfold sTryAsZ
  rw [h]
theorem tryZ_ex {i : Nat} {ct : Xc → Option Bool} {gb : Ro → Option Fl} {gs : Xn → Ro → Option Fl} {ρ ρ1 : Ro} {y : Xn} {d : D} (h : gb ρ = some (.ex y ρ1)) (h2 : ct y.cl = some true) (h3 : noTk ρ1 = true) (h4 : gs y (ρ1.set i (.tk 0)) = some (.rt d)) : sTryAsZ i ct gb gs ρ = some (.rt d) := by
  unfold sTryAsZ
  rw [h]
  dsimp only
  rw [h2]
  dsimp only
  rw [if_pos h3, h4]
theorem sorts_is (n : Int) : m_law_sorts (.badRow n) = some (.ret (.lst [.bl false, .bl false, .bl false, .bl false, .bl true, .bl false])) := by kernel_rfl
theorem ref_ok {x : Str} {d : D} (h : m_read [.str x] = some (.ret d)) : m_law_refused [.str x] = some (.ret (.int 0)) := by
  have e : sDrop (eCall (dDef 1 [] (dCall m_read)) (aCons (eVar 0) aNil)) (startE 2 [.str x]) = some (.nx (startE 2 [.str x])) := by
    exact drop_ev (call_ev (ds := [.str x]) rfl ((def_all rfl).trans (call_ret h)))
  exact run_ret ((seq_nx (tryZ_nx e)).trans (ret_ev rfl))
theorem ref_row {x : Str} {n : Int} (h : m_read [.str x] = some (.exc (.badRow n))) : m_law_refused [.str x] = some (.ret (.int n)) := by
  have e : sDrop (eCall (dDef 1 [] (dCall m_read)) (aCons (eVar 0) aNil)) (startE 2 [.str x]) = some (.ex (.badRow n) (startE 2 [.str x])) := by
    exact drop_er (call_ev (ds := [.str x]) rfl ((def_all rfl).trans (call_exc h)))
  let ρ : Ro := [.fz (.str x), .tk 0]
  let L : List D := [.bl false, .bl false, .bl false, .bl false, .bl true, .bl false]
  have c1 : bT (eOp dNe (eTk 1 (dCall (fun _ => m_law_sorts (.badRow n)) [])) (eOp dAddU (eOp dMulU (eLst (aCons (eC (.bl false)) aNil)) (eC (.int 4))) (eLst (aCons (eC (.bl true)) (aCons (eC (.bl false)) aNil))))) ρ = some (.ok false) := by
    refine bT_ev (op_ev (d := .lst L) (e := .lst L) ?_ (op_ev (d := .lst [.bl false, .bl false, .bl false, .bl false]) (e := .lst [.bl true, .bl false]) (op_ev (d := .lst [.bl false]) (e := .int 4) (lst_ev (n := 1) rfl (Nat.le_refl 1)) rfl (by kernel_rfl)) (lst_ev (n := 2) rfl (Nat.le_refl 2)) (by kernel_rfl)) (ne_lst (by decide +kernel)))
    show dCall (fun _ => m_law_sorts (.badRow n)) [] = _
    exact call_ret (sorts_is n)
  have c2 : bNot (bT (eTk 1 (dIsE isE_ValueError (.badRow n)))) ρ = some (.ok false) := nbref rfl
  have hs : (sSeq (sIf (bOr (bT (eOp dNe (eTk 1 (dCall (fun _ => m_law_sorts (.badRow n)) [])) (eOp dAddU (eOp dMulU (eLst (aCons (eC (.bl false)) aNil)) (eC (.int 4))) (eLst (aCons (eC (.bl true)) (aCons (eC (.bl false)) aNil)))))) (bNot (bT (eTk 1 (dIsE isE_ValueError (.badRow n))))))
        (sRet (e1 dNeg (eC (.int 1))))
        sNil)
      (sRet (eTk 1 (dRow (.badRow n))))) ρ = some (.rt (.int n)) := (seq_nx (if_f (or_f c1 c2) rfl)).trans (ret_ev rfl)
  exact run_ret (seq_rt (tryZ_ex e rfl rfl hs))
/-! ### names, rows -/
def Nw (s : Str) : Prop := 32 ∉ ch s ∧ 10 ∉ ch s ∧ ch s ≠ [] ∧ smD (.str s) = true
theorem kw_ok {w : Str} (h : w = "garden" ∨ w = "pot" ∨ w = "cactus") : 32 ∉ ch w ∧ 10 ∉ ch w ∧ ch w ≠ [] := by
  rcases h with rfl | rfl | rfl <;> exact ⟨by decide +kernel, by decide +kernel, by decide +kernel⟩
theorem sN_w {n : Nat} (h : n < 100) : 32 ∉ ch (sN n) ∧ 10 ∉ ch (sN n) ∧ ch (sN n) ≠ [] := ⟨(sN_ok h).1, (sN_ok h).2.1, (sN_ok h).2.2.1⟩
theorem pot_Wk {s : S} (hg : 1 ≤ s.gap ∧ s.gap ≤ 60 ∧ -1 ≤ s.rest ∧ s.rest < s.gap) (hn : Nw s.nm) : Wk (potW s) := by
  obtain ⟨w, r, e, _, k⟩ := potW_sm hg hn.2.2.2
  refine ⟨fun w hw => ?_, by rw [e]; simp, k⟩
  unfold potW at hw
  by_cases z : s.rest < 0
  · rw [if_pos z] at hw
    simp only [List.mem_cons, List.not_mem_nil, or_false] at hw
    rcases hw with rfl | rfl | rfl
    · exact kw_ok (.inr (.inl rfl))
    · exact ⟨hn.1, hn.2.1, hn.2.2.1⟩
    · exact sN_w (by omega)
  · rw [if_neg z] at hw
    simp only [List.mem_cons, List.not_mem_nil, or_false] at hw
    rcases hw with rfl | rfl | rfl | rfl
    · exact kw_ok (.inr (.inr rfl))
    · exact ⟨hn.1, hn.2.1, hn.2.2.1⟩
    · exact sN_w (by omega)
    · exact sN_w (by omega)
theorem head_Wk {c wk cl : Nat} (hc : c ≤ 8) (hw : wk ≤ 14) : Wk (headW c wk cl) := by
  refine ⟨fun w hm => ?_, by unfold headW; simp, headW_sm hc hw⟩
  rcases List.mem_cons.mp hm with rfl | hm
  · exact kw_ok (.inl rfl)
  rcases List.mem_cons.mp hm with rfl | hm
  · exact sN_w (by omega)
  rcases List.mem_cons.mp hm with rfl | hm
  · exact sN_w (by omega)
  obtain ⟨p, hp, rfl⟩ := List.mem_map.mp hm
  exact sN_w (by have := (wet_mem.mp hp).1; omega)
theorem RdP.pre {r : List Str} {s1 : List S} (h : RdP r s1) : ∀ m, ∃ s', RdP (r.take m) s' ∧ s' <+: s1 := by
  induction h with
  | nil => exact fun m => ⟨[], by rw [List.take_nil]; exact .nil, List.prefix_refl _⟩
  | @skip x r s1 hs _ ih =>
    intro m
    cases m with
    | zero => exact ⟨[], .nil, List.nil_prefix⟩
    | succ m =>
      obtain ⟨s', h1, h2⟩ := ih m
      exact ⟨s', .skip hs h1, h2⟩
  | @pot x r s s1 hs _ ih =>
    intro m
    cases m with
    | zero => exact ⟨[], .nil, List.nil_prefix⟩
    | succ m =>
      obtain ⟨s', h1, h2⟩ := ih m
      exact ⟨s :: s', .pot hs h1, List.cons_prefix_cons.mpr ⟨rfl, h2⟩⟩
/-! ### rows spoilt -/
def isRS (o : Option Out) (z : Str) : Bool := match o with
  | some (.ret (.str x)) => decide (x = z)
  | _ => false
theorem isRS_is {o : Option Out} {z : Str} (h : isRS o z = true) : o = some (.ret (.str z)) := by
  unfold isRS at h
  split at h
  · rw [of_decide_eq_true h]
  · cases h
def isRN (o : Option Out) : Bool := match o with
  | some (.ret .non) => true
  | _ => false
theorem isRN_is {o : Option Out} (h : isRN o = true) : o = some (.ret .non) := by
  unfold isRN at h
  split at h
  · rfl
  · cases h
def badT : List Str := ["pot", "pot q", "pot q 0", "pot q 61", "pot q 03", "pot q 1 1", "pot Q 3", "pot q3 3", "pot q -1", "pot q +1", "cactus q 3", "cactus q 3 3", "cactus q 3 03", "cactus q 0 0", "cactus q 3 1 1", "fern q 3", "Pot q 3", "pot aaaaaaaaaaaaa 3", "pot q 100", "pot q\t3", "pot ivy 2", "garden 1 1", "pot q 3\t", "\tpot q 3", "\t", "pot q 3 #", "pot q 3 # by the door", "pot q# 3", "pot q` 3", "pot {q 3", "pot q 3/", "cactus `q 3 1"]
def badH : List Str := ["garden", "garden 1", "garden 1 x", "garden 01 1", "garden 1 2 2", "garden 1 3 1 1", "garden 1 3 2 1", "Garden 1 1", "pot ivy 2", "garden -1 1", "garden 1 1 x", "garden 1 100", "garden 1 1\t", "\t", "garden 1 1 #", "garden 1 1 # one"]
theorem badT_all : (List.range 32).all (fun k => isRS (m_law_bad_pot [Dn k]) (badT.getD k "")) = true := by decide +kernel
theorem badH_all : (List.range 16).all (fun k => isRS (m_law_bad_head [Dn k]) (badH.getD k "")) = true := by decide +kernel
theorem badT_is {k : Nat} (h : k < 32) : m_law_bad_pot [Dn k] = some (.ret (.str (badT.getD k ""))) := isRS_is (List.all_eq_true.mp badT_all k (List.mem_range.mpr h))
theorem badH_is {k : Nat} (h : k < 16) : m_law_bad_head [Dn k] = some (.ret (.str (badH.getD k ""))) := isRS_is (List.all_eq_true.mp badH_all k (List.mem_range.mpr h))
def wdsOf (x : Str) : List Str := (Txt.split x ⟨#[32]⟩).filter fun z => decide (ch z ≠ [])
def liveB (x : Str) : Bool := wdB x (wdsOf x) && (decide (x.length ≤ 40) && (!(ch x).contains 10 && ((wdsOf x).all PyData.strOk && (match wdsOf x with | [] => false | w :: _ => !Txt.startswith w "#"))))
theorem liveB_is {x : Str} (h : liveB x = true) : x.length ≤ 40 ∧ 10 ∉ ch x ∧ ∃ w r, wdsOf x = w :: r ∧ BadW x w r := by
  unfold liveB at h
  simp only [Bool.and_eq_true, decide_eq_true_eq] at h
  obtain ⟨h1, h2, h3, h4, h5⟩ := h
  refine ⟨h2, by simpa using h3, ?_⟩
  cases e : wdsOf x with
  | nil => rw [e] at h5; cases h5
  | cons w r =>
    rw [e] at h1 h4 h5
    exact ⟨w, r, rfl, ⟨wdB_is h1, by omega⟩, fun y hy => List.all_eq_true.mp h4 y hy, by simpa using h5⟩
theorem live_all : badT.all liveB = true := by decide +kernel
theorem liveH_all : badH.all liveB = true := by decide +kernel
theorem pots_all : (List.range 32).all (fun k => decide (k = 20) || isRN (m_pot_in [.lst ((wdsOf (badT.getD k "")).map D.str)])) = true := by decide +kernel
theorem heads_all : badH.all (fun x => isRN (m_head_in [.lst ((wdsOf x).map D.str)])) = true := by decide +kernel
theorem BadW.blanks {x w : Str} {r : List Str} (h : BadW x w r) {b : Nat} (hb : b < 4) (hl : x.length ≤ 100) : BadW (spN b ++ x) w r := by
  refine ⟨⟨?_, ?_⟩, h.lv, h.st⟩
  · rw [ch_app, spN_ch hb]
    exact wd_sps h.row.1 b
  · rw [← ch_len, ch_app, List.length_append, ch_len, ch_len, spN_len hb]; omega
theorem badT_get {k : Nat} (h : k < 32) : badT.getD k "" ∈ badT := by
  rw [List.getD_eq_getElem?_getD, List.getElem?_eq_getElem (show k < badT.length from h)]
  exact List.getElem_mem _
theorem badH_get {k : Nat} (h : k < 16) : badH.getD k "" ∈ badH := by
  rw [List.getD_eq_getElem?_getD, List.getElem?_eq_getElem (show k < badH.length from h)]
  exact List.getElem_mem _
abbrev ivS (g : Nat) : S := ⟨"ivy", (g : Int), -1⟩
theorem ivT : badT.getD 20 "" = ptT (ivS 2) := by decide +kernel
theorem iv_Nw : Nw "ivy" := ⟨by decide +kernel, by decide +kernel, by decide +kernel, by decide +kernel⟩
theorem iv_nm : m_is_name [.str "ivy"] = some (.ret (.bl true)) := by kernel_rfl
theorem iv_ok {g : Nat} (h : 1 ≤ g ∧ g ≤ 5) : okSp (ivS g) := ⟨by show 1 ≤ (g : Int) ∧ (g : Int) ≤ 60 ∧ (-1 : Int) ≤ -1 ∧ (-1 : Int) < (g : Int); omega, iv_nm, iv_Nw.2.2.2⟩
/-- a spoilt row behind ivy's -/
theorem bad_is {k b : Nat} (hk : k < 32) (hb : b < 4) : (spN b ++ badT.getD k "").length ≤ 50 ∧ 10 ∉ ch (spN b ++ badT.getD k "") ∧
    ((∃ w r, BadW (spN b ++ badT.getD k "") w r ∧ m_pot_in [.lst ((w :: r).map D.str)] = some (.ret .non)) ∨ ∃ s, Row (spN b ++ badT.getD k "") (potW s) ∧ okSp s ∧ s.nm = "ivy") := by
  obtain ⟨h1, h2, w, r, e, hw⟩ := liveB_is (List.all_eq_true.mp live_all _ (badT_get hk))
  have hl : (spN b ++ badT.getD k "").length = (spN b).length + (badT.getD k "").length := by rw [← ch_len, ch_app, List.length_append]; rfl
  have hs := spN_len hb
  refine ⟨by omega, ?_, ?_⟩
  · rw [ch_app, spN_ch hb]
    intro hc
    rcases List.mem_append.mp hc with hc | hc
    · have := (List.mem_replicate.mp hc).2; omega
    · exact h2 hc
  · by_cases z : k = 20
    · subst z
      refine .inr ⟨ivS 2, ⟨?_, by omega⟩, iv_ok (by omega), rfl⟩
      rw [ivT, ch_app, spN_ch hb]
      exact wd_sps (Wk_one (pot_Wk (iv_ok (g := 2) (by omega)).1 iv_Nw)).1.1 b
    · have := List.all_eq_true.mp pots_all k (List.mem_range.mpr hk)
      rw [decide_eq_false z, Bool.false_or] at this
      rw [e] at this
      exact .inl ⟨w, r, hw.blanks hb (by omega), isRN_is this⟩
theorem badh_is {k : Nat} (hk : k < 16) : (badH.getD k "").length ≤ 40 ∧ 10 ∉ ch (badH.getD k "") ∧ ∃ w r, BadW (badH.getD k "") w r ∧ m_head_in [.lst ((w :: r).map D.str)] = some (.ret .non) := by
  obtain ⟨h1, h2, w, r, e, hw⟩ := liveB_is (List.all_eq_true.mp liveH_all _ (badH_get hk))
  have := List.all_eq_true.mp heads_all _ (badH_get hk)
  rw [e] at this
  exact ⟨h1, h2, w, r, hw, isRN_is this⟩
end K09
namespace K09
open PySem PySem.Spec PyProof.Rows L2 Tw
/-! ### the law's good rows -/
def mo4 : List Str := ["", "# one", "   ", "#one"]
def fernN (k : Nat) : Str := (["ferna", "fernb"] : List Str).getD k ""
def pf (k r : Nat) : S := ⟨fernN k, 3, (r : Int)⟩
def keepB (x : Str) : Bool := decide (Txt.stripChars x " " ≠ "") && !Txt.startswith x "#"
def mo4B (x : Str) : Bool := skB x (wdsOf x) && !keepB x
theorem mo4_all : mo4.all mo4B = true := by decide +kernel
theorem mo4_ok {x : Str} (h : x ∈ mo4) : Skip x ∧ x.length ≤ 10 ∧ 10 ∉ ch x ∧ keepB x = false := by
  have := List.all_eq_true.mp mo4_all x h
  unfold mo4B at this
  rw [Bool.and_eq_true] at this
  obtain ⟨h1, h2, h3⟩ := skB_is this.1
  exact ⟨h1, h2, h3, by simpa using this.2⟩
theorem mo4_ix {v : Nat} (h : v < 4) : ∃ x, x ∈ mo4 ∧ dIx (.tup [.str "", .str "# one", .str "   ", .str "#one"]) (.int v) = some (.ok (.str x)) := by
  have : v = 0 ∨ v = 1 ∨ v = 2 ∨ v = 3 := by omega
  rcases this with rfl | rfl | rfl | rfl
  · exact ⟨"", by simp [mo4], rfl⟩
  · exact ⟨"# one", by simp [mo4], rfl⟩
  · exact ⟨"   ", by simp [mo4], rfl⟩
  · exact ⟨"#one", by simp [mo4], rfl⟩
theorem fern_Nw {k : Nat} (h : k < 2) : Nw (fernN k) := by
  have : k = 0 ∨ k = 1 := by omega
  rcases this with rfl | rfl <;> exact ⟨by decide +kernel, by decide +kernel, by decide +kernel, by decide +kernel⟩
theorem fern_nm {k : Nat} (h : k < 2) : m_is_name [.str (fernN k)] = some (.ret (.bl true)) := by
  match k, h with
  | 0, _ => kernel_rfl
  | 1, _ => kernel_rfl
theorem pf_ok {k r : Nat} (h : k < 2) (hr : r < 3) : okSp (pf k r) := ⟨by show 1 ≤ (3 : Int) ∧ (3 : Int) ≤ 60 ∧ (-1 : Int) ≤ (r : Nat) ∧ ((r : Nat) : Int) < 3; omega, fern_nm h, (fern_Nw h).2.2.2⟩
theorem pf_Wk {k r : Nat} (h : k < 2) (hr : r < 3) : Wk (potW (pf k r)) := pot_Wk (pf_ok h hr).1 (fern_Nw h)
theorem pfk_all : (List.range 2).all (fun k => (List.range 3).all fun r => keepB (ptT (pf k r))) = true := by decide +kernel
theorem ivk_all : (List.range 6).all (fun g => keepB (ptT (ivS g)) && decide (("pot ivy " : Str) ++ sN g = ptT (ivS g))) = true := by decide +kernel
theorem hdk_all : (List.range 4).all (fun c => (List.range 4).all fun w => keepB (hdT c w 0)) = true := by decide +kernel
theorem pfk {k r : Nat} (h : k < 2) (hr : r < 3) : keepB (ptT (pf k r)) = true := List.all_eq_true.mp (List.all_eq_true.mp pfk_all k (List.mem_range.mpr h)) r (List.mem_range.mpr hr)
theorem ivk {g : Nat} (h : g < 6) : keepB (ptT (ivS g)) = true ∧ ("pot ivy " : Str) ++ sN g = ptT (ivS g) := by
  have := List.all_eq_true.mp ivk_all g (List.mem_range.mpr h)
  simpa using this
theorem hdk {c w : Nat} (h : c < 4) (hw : w < 4) : keepB (hdT c w 0) = true := List.all_eq_true.mp (List.all_eq_true.mp hdk_all c (List.mem_range.mpr h)) w (List.mem_range.mpr hw)
inductive TlF : List Str → List S → Prop
  | nil : TlF [] []
  | more {x : Str} {r : List Str} {s1 : List S} : x ∈ mo4 → TlF r s1 → TlF (x :: r) s1
  | pot {k q : Nat} {r : List Str} {s1 : List S} : k < 2 → q < 3 → TlF r s1 → TlF (ptT (pf k q) :: r) (pf k q :: s1)
theorem TlF.rd {r : List Str} {s1 : List S} (h : TlF r s1) : RdP r s1 := by
  induction h with
  | nil => exact .nil
  | more hx _ ih => exact .skip (mo4_ok hx).1 ih
  | pot hk hq _ ih => exact .pot (Wk_one (pf_Wk hk hq)).1 ih
theorem TlF.rows {r : List Str} {s1 : List S} (h : TlF r s1) : ∀ y ∈ r, y.length ≤ 2000 ∧ 10 ∉ ch y := by
  induction h with
  | nil => exact fun y hy => nomatch hy
  | more hx _ ih =>
    intro y hy
    rcases List.mem_cons.mp hy with rfl | hy
    · have := mo4_ok hx
      exact ⟨by omega, this.2.2.1⟩
    · exact ih y hy
  | pot hk hq _ ih =>
    intro y hy
    rcases List.mem_cons.mp hy with rfl | hy
    · have := Wk_one (pf_Wk hk hq)
      exact ⟨this.2.2, this.2.1⟩
    · exact ih y hy
theorem TlF.keep {r : List Str} {s1 : List S} (h : TlF r s1) : r.filter keepB = s1.map ptT := by
  induction h with
  | nil => rfl
  | more hx _ ih => rw [List.filter_cons, (mo4_ok hx).2.2.2]; exact ih
  | pot hk hq _ ih => rw [List.filter_cons, pfk hk hq, List.map_cons, ih]; rfl
theorem TlF.ok {r : List Str} {s1 : List S} (h : TlF r s1) : ∀ s ∈ s1, okSp s ∧ s.gap = 3 := by
  induction h with
  | nil => exact fun s hs => nomatch hs
  | more _ _ ih => exact ih
  | pot hk hq _ ih =>
    intro s hs
    rcases List.mem_cons.mp hs with rfl | hs
    · exact ⟨pf_ok hk hq, rfl⟩
    · exact ih s hs
theorem fern_ev {ρ : Ro} {f : Ro → EM D} {k : Nat} (hk : k < 2) (h : f ρ = some (.ok (Dn k))) : eOp dAddU (eC (.str "fern")) (eOp dIx (eC (.str "ab")) f) ρ = some (.ok (.str (fernN k))) := by
  match k, hk with
  | 0, _ => exact op_ev (d := .str "fern") (e := .str "a") rfl (op_ev (d := .str "ab") (e := Dn 0) rfl h (by kernel_rfl)) (by kernel_rfl)
  | 1, _ => exact op_ev (d := .str "fern") (e := .str "b") rfl (op_ev (d := .str "ab") (e := Dn 1) rfl h (by kernel_rfl)) (by kernel_rfl)
theorem sN3 : sN 3 = "3" := by decide +kernel
theorem drawX {ρ : Ro} {f g h : Ro → EM D} {c k : Int} {m : Nat} (hf : f ρ = some (.ok (.int c))) (hg : g ρ = some (.ok (.int k))) (hh : h ρ = some (.ok (Dn m))) (hm : 0 < m) : ∃ v : Nat, v < m ∧ eCall (dDef 3 [] (dCall m_law_draw)) (aCons f (aCons g (aCons h aNil))) ρ = some (.ok (Dn v)) := by
  obtain ⟨v, v0, v1, hv⟩ := draw_is c k m (by omega)
  refine ⟨v.toNat, by omega, (call_ev (ds := [.int c, .int k, .int m]) (a_cons hf (a_cons hg (a_cons hh rfl))) hv).trans ?_⟩
  show some (Except.ok (D.int v)) = some (Except.ok (D.int (v.toNat : Int)))
  rw [Int.toNat_of_nonneg v0]
theorem addN {ρ : Ro} {f g : Ro → EM D} {a b : Nat} (hf : f ρ = some (.ok (Dn a))) (hg : g ρ = some (.ok (Dn b))) : eOp dAddU f g ρ = some (.ok (Dn (a + b))) := by
  refine op_ev hf hg ?_
  show some (Except.ok (D.int ((a : Int) + (b : Int)))) = _
  rw [← Int.natCast_add]
theorem modN {ρ : Ro} {f : Ro → EM D} {i : Int} {m : Nat} (hf : f ρ = some (.ok (.int i))) (hm : 0 < m) : ∃ v : Nat, v < m ∧ eOp dMod f (eC (.int m)) ρ = some (.ok (Dn v)) := by
  have m0 := Int.emod_nonneg i (show (m : Int) ≠ 0 by omega)
  have m1 := Int.emod_lt_of_pos i (show (0 : Int) < (m : Int) by omega)
  refine ⟨(i % (m : Int)).toNat, by omega, (modE hf (by omega)).trans ?_⟩
  show some (Except.ok (D.int _)) = some (Except.ok (D.int (((i % (m : Int)).toNat : Nat) : Int)))
  rw [Int.toNat_of_nonneg m0]
theorem app_str {ρ : Ro} {i : Nat} {f : Ro → EM D} {acc : List Str} {x : Str} (h0 : ρ[i]? = some (.ow (acc.map D.str))) (h : f ρ = some (.ok (.str x))) (hl : acc.length < 1000) : gdO i (sApp i f) ρ = some (.nx (ρ.set i (.ow ((acc ++ [x]).map D.str)))) := by
  rw [List.map_append]
  exact app_ev (i := i) (ds := acc.map D.str) (d := .str x) h0 h (by rw [List.length_map]; omega)
abbrev bRw : Ro → Option Fl := (sSeq (sSet 4 (eOp dIx (eTup (aCons (eC (.str "")) (aCons (eC (.str "# one")) (aCons (eC (.str "   ")) (aCons (eC (.str "#one")) aNil))))) (eCall (dDef 3 [] (dCall m_law_draw)) (aCons (eVar 1) (aCons (eVar 3) (aCons (eC (.int 4)) aNil))))))
      (sSeq (gdO 2 (sApp 2 (eVar 4)))
      (gdO 2 (sApp 2 (eMt dJoin (eC (.str " ")) (aCons (eLst (aCons (eC (.str "cactus")) (aCons (eOp dAddU (eC (.str "fern")) (eOp dIx (eC (.str "ab")) (eVarB 3))) (aCons (eC (.str "3")) (aCons (eCall dStr (aCons (eCall (dDef 3 [] (dCall m_law_draw)) (aCons (eVar 1) (aCons (eOp dAddU (eVarB 3) (eC (.int 3))) (aCons (eC (.int 3)) aNil)))) aNil)) aNil))))) aNil))))))
theorem rw_step {t : D} {cell : Int} {k : Nat} {acc : List Str} {e4 : Ent} (hk : k < 2) (hl : acc.length < 900) : ∃ x q f4, x ∈ mo4 ∧ q < 3 ∧ bRw [.fz t, .fz (.int cell), .ow (acc.map D.str), .fz (Dn k), e4] = some (.nx [.fz t, .fz (.int cell), .ow ((acc ++ [x, ptT (pf k q)]).map D.str), .fz (Dn k), f4]) := by
  obtain ⟨v, hv, ev⟩ := drawX (f := eVar 1) (g := eVar 3) (h := eC (.int 4)) (ρ := [.fz t, .fz (.int cell), .ow (acc.map D.str), .fz (Dn k), e4]) (c := cell) (k := k) (m := 4) rfl rfl rfl (by decide)
  obtain ⟨x, hx, ix⟩ := mo4_ix hv
  have s1 : sSet 4 (eOp dIx (eTup (aCons (eC (.str "")) (aCons (eC (.str "# one")) (aCons (eC (.str "   ")) (aCons (eC (.str "#one")) aNil))))) (eCall (dDef 3 [] (dCall m_law_draw)) (aCons (eVar 1) (aCons (eVar 3) (aCons (eC (.int 4)) aNil))))) [.fz t, .fz (.int cell), .ow (acc.map D.str), .fz (Dn k), e4] = some (.nx [.fz t, .fz (.int cell), .ow (acc.map D.str), .fz (Dn k), .fz (.str x)]) :=
    set_ev (i := 4) (op_ev (d := .tup [.str "", .str "# one", .str "   ", .str "#one"]) (e := Dn v) rfl ev ix)
  have s2 : gdO 2 (sApp 2 (eVar 4)) [.fz t, .fz (.int cell), .ow (acc.map D.str), .fz (Dn k), .fz (.str x)] = some (.nx [.fz t, .fz (.int cell), .ow ((acc ++ [x]).map D.str), .fz (Dn k), .fz (.str x)]) := app_str (i := 2) rfl rfl (by omega)
  let ρ2 : Ro := [.fz t, .fz (.int cell), .ow ((acc ++ [x]).map D.str), .fz (Dn k), .fz (.str x)]
  obtain ⟨q, hq, eq⟩ := drawX (f := eVar 1) (g := eOp dAddU (eVarB 3) (eC (.int 3))) (h := eC (.int 3)) (ρ := ρ2) (c := cell) (k := (k + 3 : Nat)) (m := 3) rfl (addN (b := 3) rfl rfl) rfl (by decide)
  have hw := pf_Wk hk hq
  have el : eLst (aCons (eC (.str "cactus")) (aCons (eOp dAddU (eC (.str "fern")) (eOp dIx (eC (.str "ab")) (eVarB 3))) (aCons (eC (.str "3")) (aCons (eCall dStr (aCons (eCall (dDef 3 [] (dCall m_law_draw)) (aCons (eVar 1) (aCons (eOp dAddU (eVarB 3) (eC (.int 3))) (aCons (eC (.int 3)) aNil)))) aNil)) aNil)))) ρ2 = some (.ok (.lst ((potW (pf k q)).map D.str))) := by
    have e2 : potW (pf k q) = (["cactus", fernN k, sN 3, sN q] : List Str) := by
      unfold potW
      rw [if_neg (show ¬ (pf k q).rest < 0 by show ¬ ((q : Nat) : Int) < 0; omega)]
      rfl
    rw [e2, sN3]
    exact lst_ev (n := 4) (a_cons rfl (a_cons (fern_ev hk rfl) (a_cons rfl (a_cons (str_ev eq (by omega)) rfl)))) (Nat.le_refl 4)
  refine ⟨x, q, .fz (.str x), hx, hq, (seq_nx s1).trans ((seq_nx s2).trans ?_)⟩
  rw [show acc ++ [x, ptT (pf k q)] = acc ++ [x] ++ [ptT (pf k q)] by rw [List.append_assoc]; rfl]
  exact app_str (i := 2) (acc := acc ++ [x]) rfl (spJ hw.2.2 el) (by rw [List.length_append, List.length_singleton]; omega)
theorem rw_go {t : D} {cell : Int} : ∀ (m s : Nat) (acc : List Str) (e3 e4 : Ent), s + m ≤ 2 → acc.length + 2 * m ≤ 800 → ∃ tl ss f3 f4, TlF tl ss ∧ tl.length = 2 * m ∧ ss.map (·.nm) = (List.range' s m).map fernN ∧
    forD (gN 3) bRw ((List.range' s m).map Dn) [.fz t, .fz (.int cell), .ow (acc.map D.str), e3, e4] = some (.nx [.fz t, .fz (.int cell), .ow ((acc ++ tl).map D.str), f3, f4])
  | 0, s, acc, e3, e4, _, _ => ⟨[], [], e3, e4, .nil, rfl, rfl, by rw [List.append_nil]; rfl⟩
  | m + 1, s, acc, e3, e4, hs, hl => by
    obtain ⟨x, q, f4, hx, hq, hb⟩ := rw_step (t := t) (cell := cell) (k := s) (acc := acc) (e4 := e4) (by omega) (by omega)
    obtain ⟨tl, ss, g3, g4, h1, h2, h3, hf⟩ := rw_go (t := t) (cell := cell) m (s + 1) (acc ++ [x, ptT (pf s q)]) (.fz (Dn s)) f4 (by omega) (by rw [List.length_append]; show acc.length + 2 + _ ≤ _; omega)
    refine ⟨x :: ptT (pf s q) :: tl, pf s q :: ss, g3, g4, .more hx (.pot (by omega) hq h1), by rw [List.length_cons, List.length_cons, h2]; omega, by rw [List.map_cons, h3, List.range'_succ, List.map_cons]; rfl, ?_⟩
    rw [List.range'_succ, List.map_cons]
    refine (for_cons (ρ1 := [.fz t, .fz (.int cell), .ow (acc.map D.str), .fz (Dn s), e4]) rfl hb).trans (hf.trans ?_)
    rw [List.append_assoc]; rfl
/-- the good rows of a script -/
structure Good (rows : List Str) (c w g : Nat) (tl : List Str) (ss : List S) : Prop where
  rw : rows = hdT c w 0 :: ptT (ivS g) :: tl
  hc : c < 4
  hw : 1 ≤ w ∧ w ≤ 3
  hg : 1 ≤ g ∧ g ≤ 5
  tf : TlF tl ss
  len : tl.length ≤ 4
  nm : ∃ n, n ≤ 2 ∧ ss.map (·.nm) = (List.range' 0 n).map fernN
theorem rows_is (ns : List Int) : ∃ rows c w g tl ss, Good rows c w g tl ss ∧ m_law_rows [.scr ns] = some (.reto (rows.map D.str)) := by
  let cell := ns.getD 0 0
  let ρ := fun (e2 : Ent) => ([.fz (.scr ns), .fz (.int cell), e2, .un, .un] : Ro)
  have s1 : sSet 1 (eCall (dDef 2 [] (dCall m_law_cell_at)) (aCons (eVar 0) (aCons (eC (.int 0)) aNil))) (startE 5 [.scr ns]) = some (.nx (ρ .un)) := set_ev (i := 1) (cellN (k := 0) rfl rfl)
  obtain ⟨c, hc, ec⟩ := modN (f := eVarB 1) (ρ := ρ .un) (i := cell) (m := 4) rfl (by decide)
  obtain ⟨w, hw, ew⟩ := modN (f := eOp dDiv (eVarB 1) (eC (.int 4))) (ρ := ρ .un) (m := 3) (divE (i := cell) rfl (by decide)) (by decide)
  have hW : Sm (headW c (1 + w) 0) := headW_sm (by omega) (by omega)
  have ewet : wet (1 + w) 0 = [] := (wet_nil (Nat.pow_pos (by decide))).mpr rfl
  have s2 : sSetO 2 (eLst (aCons (eMt dJoin (eC (.str " ")) (aCons (eLst (aCons (eC (.str "garden")) (aCons (eCall dStr (aCons (eOp dMod (eVarB 1) (eC (.int 4))) aNil)) (aCons (eCall dStr (aCons (eOp dAddU (eC (.int 1)) (eOp dMod (eOp dDiv (eVarB 1) (eC (.int 4))) (eC (.int 3)))) aNil)) aNil)))) aNil)) aNil)) (ρ .un) = some (.nx (ρ (.ow ([hdT c (1 + w) 0].map D.str)))) := by
    have a1 : eLst (aCons (eC (.str "garden")) (aCons (eCall dStr (aCons (eOp dMod (eVarB 1) (eC (.int 4))) aNil)) (aCons (eCall dStr (aCons (eOp dAddU (eC (.int 1)) (eOp dMod (eOp dDiv (eVarB 1) (eC (.int 4))) (eC (.int 3)))) aNil)) aNil))) (ρ .un) = some (.ok (.lst ((headW c (1 + w) 0).map D.str))) := by
      unfold headW
      rw [ewet]
      exact lst_ev (n := 3) (a_cons rfl (a_cons (str_ev ec (by omega)) (a_cons (str_ev (addN (a := 1) rfl ew) (by omega)) rfl))) (Nat.le_refl 3)
    have a2 := lst_ev (ρ := ρ .un) (ds := [.str (hdT c (1 + w) 0)]) (n := 1) (a_cons (fs := aNil) (spJ (ws := headW c (1 + w) 0) hW a1) rfl) (Nat.le_refl 1)
    unfold sSetO
    rw [a2, toS_ok]
    rfl
  let ρ2 := ρ (.ow ([hdT c (1 + w) 0].map D.str))
  obtain ⟨g, hg, eg⟩ := modN (f := eOp dDiv (eVarB 1) (eC (.int 12))) (ρ := ρ2) (m := 5) (divE (i := cell) rfl (by decide)) (by decide)
  have s3 : gdO 2 (sApp 2 (eOp dAddU (eC (.str "pot ivy ")) (eCall dStr (aCons (eOp dAddU (eC (.int 1)) (eOp dMod (eOp dDiv (eVarB 1) (eC (.int 12))) (eC (.int 5)))) aNil)))) ρ2 = some (.nx (ρ (.ow (([hdT c (1 + w) 0] ++ [ptT (ivS (1 + g))]).map D.str)))) := by
    refine app_str (i := 2) (acc := [hdT c (1 + w) 0]) rfl ((op_ev (d := .str "pot ivy ") (e := .str (sN (1 + g))) rfl (str_ev (addN (a := 1) rfl eg) (by omega)) (add_str ?_)).trans ?_) (by simp)
    · have := (sN_ok (n := 1 + g) (by omega)).2.2.2
      show 8 + _ ≤ _
      omega
    · rw [(ivk (g := 1 + g) (by omega)).2]
  obtain ⟨n, hn, en⟩ := modN (f := eOp dDiv (eVarB 1) (eC (.int 60))) (ρ := ρ (.ow (([hdT c (1 + w) 0] ++ [ptT (ivS (1 + g))]).map D.str))) (m := 3) (divE (i := cell) rfl (by decide)) (by decide)
  obtain ⟨tl, ss, f3, f4, h1, h2, h3, hf⟩ := rw_go (t := .scr ns) (cell := cell) n 0 ([hdT c (1 + w) 0] ++ [ptT (ivS (1 + g))]) .un .un (by omega) (by show 2 + _ ≤ _; omega)
  refine ⟨_, c, 1 + w, 1 + g, tl, ss, ⟨rfl, hc, by omega, by omega, h1, by omega, n, by omega, h3⟩, ?_⟩
  have : (sSeq (sSet 1 (eCall (dDef 2 [] (dCall m_law_cell_at)) (aCons (eVar 0) (aCons (eC (.int 0)) aNil))))
    (sSeq (sSetO 2 (eLst (aCons (eMt dJoin (eC (.str " ")) (aCons (eLst (aCons (eC (.str "garden")) (aCons (eCall dStr (aCons (eOp dMod (eVarB 1) (eC (.int 4))) aNil)) (aCons (eCall dStr (aCons (eOp dAddU (eC (.int 1)) (eOp dMod (eOp dDiv (eVarB 1) (eC (.int 4))) (eC (.int 3)))) aNil)) aNil)))) aNil)) aNil)))
    (sSeq (gdO 2 (sApp 2 (eOp dAddU (eC (.str "pot ivy ")) (eCall dStr (aCons (eOp dAddU (eC (.int 1)) (eOp dMod (eOp dDiv (eVarB 1) (eC (.int 12))) (eC (.int 5)))) aNil)))))
    (sSeq (sFor (gN 3) (iRg dRng1 (aCons (eOp dMod (eOp dDiv (eVarB 1) (eC (.int 60))) (eC (.int 3))) aNil)) bRw)
    (sRetV 2))))) (startE 5 [.scr ns]) = some (.rto ((hdT c (1 + w) 0 :: ptT (ivS (1 + g)) :: tl).map D.str)) :=
    (seq_nx s1).trans ((seq_nx s2).trans ((seq_nx s3).trans ((seq_nx (for_ev (rg_ev (ds := [Dn n]) (a_cons en rfl) (rng1_is n (by omega))) hf)).trans rfl)))
  exact (congrArg outOf this).trans rfl
section
variable {rows tl : List Str} {c w g : Nat} {ss : List S}
theorem Good.names (h : Good rows c w g tl ss) : ∃ ks, namesS ((ivS g :: ss).map (·.nm)) [] = some ks := by
  obtain ⟨n, hn, e⟩ := h.nm
  rw [List.map_cons, e]
  show ∃ ks, namesS ("ivy" :: (List.range' 0 n).map fernN) [] = some ks
  have : n = 0 ∨ n = 1 ∨ n = 2 := by omega
  rcases this with rfl | rfl | rfl
  · exact ⟨[("ivy", 0)], by decide +kernel⟩
  · exact ⟨[("ivy", 0), ("ferna", 1)], by decide +kernel⟩
  · exact ⟨[("ivy", 0), ("ferna", 1), ("fernb", 2)], by decide +kernel⟩
theorem Good.ok (h : Good rows c w g tl ss) : ∀ s ∈ ivS g :: ss, okSp s := fun s hs => by
  rcases List.mem_cons.mp hs with rfl | hs
  · exact iv_ok h.hg
  · exact (h.tf.ok s hs).1
theorem Good.slen (h : Good rows c w g tl ss) : ss.length ≤ 2 := by
  obtain ⟨n, hn, e⟩ := h.nm
  have := congrArg List.length e
  rw [List.length_map, List.length_map, List.length_range'] at this
  omega
theorem Good.sok (h : Good rows c w g tl ss) : Sok (ivS g :: ss) (c : Int) w 0 := by
  have hg := h.hg
  have hw := h.hw
  have hc := h.hc
  have hl := h.slen
  refine ⟨by rw [List.length_cons]; omega, by rw [List.length_cons]; omega, fun s hs => (h.ok s hs).1, fun s hs => (h.ok s hs).2.1, h.names, by omega, by omega, Nat.pow_pos (by decide), ?_⟩
  have h1 := prodS_le (b := 5) (ivS g :: ss) 1 (fun s hs => by
    rcases List.mem_cons.mp hs with rfl | hs
    · show (g : Int) ≤ 5; omega
    · have := (h.tf.ok s hs).2; omega)
  have h2 : 5 ^ (ivS g :: ss).length ≤ 5 ^ 3 := Nat.pow_le_pow_right (by decide) (by rw [List.length_cons]; omega)
  have h3 : w * prodS 1 (ivS g :: ss) ≤ 3 * 125 := Nat.mul_le_mul hw.2 (by omega)
  omega
theorem Good.sm (h : Good rows c w g tl ss) : ∀ s ∈ ivS g :: ss, smD (.str s.nm) = true := fun s hs => (h.ok s hs).2.2
theorem Good.iv (h : Good rows c w g tl ss) : Wk (potW (ivS g)) := pot_Wk (iv_ok h.hg).1 iv_Nw
theorem Good.hd (h : Good rows c w g tl ss) : Wk (headW c w 0) := head_Wk (by have := h.hc; omega) (by have := h.hw; omega)
theorem Good.free (h : Good rows c w g tl ss) : ∀ y ∈ rows, y.length ≤ 2000 ∧ 10 ∉ ch y := fun y hy => by
  rw [h.rw] at hy
  rcases List.mem_cons.mp hy with rfl | hy
  · have := Wk_one h.hd
    exact ⟨this.2.2, this.2.1⟩
  rcases List.mem_cons.mp hy with rfl | hy
  · have := Wk_one h.iv
    exact ⟨this.2.2, this.2.1⟩
  · exact h.tf.rows y hy
theorem Good.len2 (h : Good rows c w g tl ss) : 2 ≤ rows.length ∧ rows.length ≤ 6 := by
  rw [h.rw, List.length_cons, List.length_cons]
  have := h.len
  omega
/-- rows joined: split they are as they were -/
theorem join_rows {l : List Str} (hne : l ≠ []) (hl : l.length ≤ 40) (h : ∀ y ∈ l, y.length ≤ 2000 ∧ 10 ∉ ch y) : (Txt.join "\n" l).length ≤ 100000 ∧ Txt.split (Txt.join "\n" l) ⟨#[10]⟩ = l := by
  refine ⟨?_, by rw [nl_is]; exact split_join hne fun p hp => (h p hp).2⟩
  have := join_len (a := "\n") (ys := l) fun y hy => (h y hy).1
  rw [one_nl] at this
  have h2 : 2001 * l.length ≤ 2001 * 40 := Nat.mul_le_mul_left _ hl
  omega
theorem Good.read (h : Good rows c w g tl ss) : ∃ ks, namesS ((ivS g :: ss).map (·.nm)) [] = some ks ∧ m_read [.str (Txt.join "\n" rows)] = some (.ret (gdD ((ivS g :: ss).map S.p) c w 0 ks)) := by
  obtain ⟨ks, hk⟩ := h.names
  obtain ⟨j1, j2⟩ := join_rows (l := rows) (by rw [h.rw]; simp) (by have := h.len2; omega) h.free
  refine ⟨ks, hk, read_is h.sok hk h.sm j1 j2 ?_ (by have := h.len2; omega)⟩
  rw [h.rw]
  show RdH ((c : Int).toNat) w 0 _ _
  rw [Int.toNat_natCast]
  exact .head (Wk_one h.hd).1 (.pot (Wk_one h.iv).1 h.tf.rd)
theorem Good.keep (h : Good rows c w g tl ss) : rows.filter keepB = rowsT (ivS g :: ss) c w 0 := by
  have hc := h.hc
  have hw := h.hw
  have hg := h.hg
  rw [h.rw, List.filter_cons, hdk hc (by omega), if_pos rfl, List.filter_cons, (ivk (g := g) (by omega)).1, if_pos rfl, h.tf.keep]
  rfl
/-- with a spoilt row put in -/
theorem Good.spoilt (h : Good rows c w g tl ss) {p k b : Nat} (hp : 2 ≤ p ∧ p ≤ rows.length) (hk : k < 32) (hb : b < 4) {post : List Str} (hpl : post.length ≤ 2) (hpost : ∀ y ∈ post, y.length ≤ 2000 ∧ 10 ∉ ch y) :
    m_law_refused [.str (Txt.join "\n" (rows.take p ++ (spN b ++ badT.getD k "") :: (rows.drop p ++ post)))] = some (.ret (.int ((p : Int) + 1))) := by
  obtain ⟨b1, b2, b3⟩ := bad_is hk hb
  have hl := h.len2
  obtain ⟨m, rfl⟩ : ∃ m, p = m + 2 := ⟨p - 2, by omega⟩
  have etake : rows.take (m + 2) = hdT c w 0 :: ptT (ivS g) :: tl.take m := by rw [h.rw]; rfl
  have hlt : (rows.take (m + 2)).length = m + 2 := by rw [List.length_take]; omega
  obtain ⟨s', hs', hpre⟩ := h.tf.rd.pre m
  have hall : ∀ y ∈ rows.take (m + 2) ++ (spN b ++ badT.getD k "") :: (rows.drop (m + 2) ++ post), y.length ≤ 2000 ∧ 10 ∉ ch y := fun y hy => by
    rcases List.mem_append.mp hy with hy | hy
    · exact h.free y (List.mem_of_mem_take hy)
    rcases List.mem_cons.mp hy with rfl | hy
    · exact ⟨by omega, b2⟩
    rcases List.mem_append.mp hy with hy | hy
    · exact h.free y (List.mem_of_mem_drop hy)
    · exact hpost y hy
  have hlen : (rows.take (m + 2) ++ (spN b ++ badT.getD k "") :: (rows.drop (m + 2) ++ post)).length ≤ 40 := by
    rw [List.length_append, List.length_cons, List.length_append, List.length_take, List.length_drop]
    omega
  obtain ⟨j1, j2⟩ := join_rows (by simp) hlen hall
  have hsub : ∀ s ∈ ivS g :: s', s ∈ ivS g :: ss := fun s hs => by
    rcases List.mem_cons.mp hs with rfl | hs
    · exact List.mem_cons_self
    · exact List.mem_cons_of_mem _ (hpre.subset hs)
  have hnd : ((ivS g :: s').map (·.nm)).Nodup := by
    obtain ⟨ks, hk2⟩ := h.names
    have := (names_ord hk2).2.2
    refine this.sublist (List.Sublist.map _ (List.Sublist.cons_cons _ hpre.sublist))
  have hl8 : (ivS g :: s').length ≤ 8 := by
    have := hpre.length_le
    have := h.slen
    rw [List.length_cons]; omega
  have hr := read_bad (c := c) (wk := w) (cl := 0) (by have := h.hc; omega) (by have := h.hw; omega) (Nat.pow_pos (by decide)) (pre := rows.take (m + 2)) (post := rows.drop (m + 2) ++ post) (s1 := ivS g :: s') (x0 := spN b ++ badT.getD k "") (by rw [etake]; exact .head (Wk_one h.hd).1 (.pot (Wk_one h.iv).1 hs')) (fun s hs => h.ok s (hsub s hs)) hl8 hnd j1 j2 (by omega) (by
    rcases b3 with q | ⟨s, q1, q2, q3⟩
    · exact .inl q
    · exact .inr ⟨s, q1, q2, by rw [q3]; exact List.mem_cons_self⟩)
  rw [hlt] at hr
  exact ref_row hr
/-- with the first row spoilt -/
theorem Good.headless (h : Good rows c w g tl ss) {k a : Nat} (hk : k < 16) (ha : a ≤ 2) : m_law_refused [.str (Txt.join "\n" (List.replicate a ("#" : Str) ++ badH.getD k "" :: rows.drop 1))] = some (.ret (.int ((a : Int) + 1))) := by
  obtain ⟨b1, b2, w', r, b3, b4⟩ := badh_is hk
  have hl := h.len2
  have hall : ∀ y ∈ List.replicate a ("#" : Str) ++ badH.getD k "" :: rows.drop 1, y.length ≤ 2000 ∧ 10 ∉ ch y := fun y hy => by
    rcases List.mem_append.mp hy with hy | hy
    · rw [(List.mem_replicate.mp hy).2]
      exact ⟨by have := rem_ok.2.1; omega, rem_ok.2.2⟩
    rcases List.mem_cons.mp hy with rfl | hy
    · exact ⟨by omega, b2⟩
    · exact h.free y (List.mem_of_mem_drop hy)
  have hlen : (List.replicate a ("#" : Str) ++ badH.getD k "" :: rows.drop 1).length ≤ 40 := by
    rw [List.length_append, List.length_cons, List.length_replicate, List.length_drop]
    omega
  obtain ⟨j1, j2⟩ := join_rows (by simp) hlen hall
  have hr := read_badH (pre := List.replicate a ("#" : Str)) (post := rows.drop 1) (fun y hy => by rw [(List.mem_replicate.mp hy).2]; exact rem_ok.1) j1 j2 (by omega) b3 b4
  rw [List.length_replicate] at hr
  exact ref_row hr
end
end K09
namespace K09
open PySem PySem.Spec PyProof.Rows L2 Tw
/-! ### rows that together make no garden -/
abbrev wh0 : Ro → Option Fl := (sSet 1 (eOp dAddU (eLst (aCons (eC (.str "garden 1 1")) aNil)) (eLc [5] (gN 5) (iChars (eC (.str "abcdefghi"))) bYes (eOp dAddU (eOp dAddU (eC (.str "pot ")) (eVarB 5)) (eC (.str " 1"))))))
abbrev wh1 : Ro → Option Fl := (sSet 2 (eLst (aCons (eC (.str "garden 1 1")) (aCons (eC (.str "pot a 60")) (aCons (eC (.str "pot b 60")) (aCons (eC (.str "pot c 6")) aNil))))))
abbrev wh2 : Ro → Option Fl := (sSet 3 (eLst (aCons (eLst (aCons (eC (.str "garden 9 1")) (aCons (eC (.str "pot a 1")) aNil))) (aCons (eLst (aCons (eC (.str "garden 1 0")) (aCons (eC (.str "pot a 1")) aNil))) (aCons (eLst (aCons (eC (.str "garden 1 15")) (aCons (eC (.str "pot a 1")) aNil))) aNil)))))
abbrev wh3 : Ro → Option Fl := (sFor (gN 4) (iOf (eOp dAddU (eLst (aCons (eLst (aCons (eC (.str "garden 1 1")) aNil)) (aCons (eVar 1) (aCons (eVar 2) aNil)))) (eVarB 3)))
      (sSeq (sSet 4 (eOp dAddU (eVarB 4) (eOp dMulU (eLst (aCons (eC (.str "#")) aNil)) (eOp dMod (eCall (dDef 2 [] (dCall m_law_cell_at)) (aCons (eVar 0) (aCons (eC (.int 3)) aNil))) (eC (.int 3))))))
      (sIf (bT (eOp dNe (eCall (dDef 1 [] (dCall m_law_refused)) (aCons (eMt dJoin (eC (.str "\n")) (aCons (eVarB 4) aNil)) aNil)) (eOp dAddU (eCall dLen (aCons (eVarB 4) aNil)) (eC (.int 1)))))
        (sRet (eC (.bl false)))
        sNil)))
abbrev wh4 : Ro → Option Fl := (sIf (bOr (bT (eOp dNe (eCall (dDef 1 [] (dCall m_law_refused)) (aCons (eC (.str "")) aNil)) (eC (.int 2)))) (bT (eOp dNe (eCall (dDef 1 [] (dCall m_law_refused)) (aCons (eC (.str "# garden 1 1\n")) aNil)) (eC (.int 3)))))
      (sRet (eC (.bl false)))
      sNil)
abbrev wh5 : Ro → Option Fl := (sRet (eOp dEq (eCall (dDef 1 [] (dCall m_law_refused)) (aCons (eMt dJoin (eC (.str "\n")) (aCons (eSl dSlU (eVarB 1) oNone (oSome (eC (.int 9)))) aNil)) aNil)) (eC (.int 0))))
theorem wh_row : m_law_whole = runD (["_law_script", "_law_many", "_law_wide", "_law_some", "_law_rows_here", "_law_name"] : List Str).length (sSeq wh0 (sSeq wh1 (sSeq wh2 (sSeq wh3 (sSeq wh4 wh5))))) := rfl

abbrev rD (r : List Str) : D := .lst (r.map D.str)
def manyL : List Str := ["garden 1 1", "pot a 1", "pot b 1", "pot c 1", "pot d 1", "pot e 1", "pot f 1", "pot g 1", "pot h 1", "pot i 1"]
def wideL : List Str := ["garden 1 1", "pot a 60", "pot b 60", "pot c 6"]
def someL : List (List Str) := [["garden 9 1", "pot a 1"], ["garden 1 0", "pot a 1"], ["garden 1 15", "pot a 1"]]
def wholeL : List (List Str) := ["garden 1 1"] :: manyL :: wideL :: someL
def refB (R : List Str) (d : Nat) : Bool := isRI (m_law_refused [.str (Txt.join "\n" (R ++ List.replicate d ("#" : Str)))]) ((R.length + d + 1 : Nat) : Int)
theorem ref_all : wholeL.all (fun R => (List.range 3).all fun d => refB R d) = true := by decide +kernel
theorem ref_e1 : m_law_refused [.str ""] = some (.ret (.int 2)) := isRI_is (by decide +kernel)
theorem ref_e2 : m_law_refused [.str "# garden 1 1\n"] = some (.ret (.int 3)) := isRI_is (by decide +kernel)
theorem ref_e3 : m_law_refused [.str (Txt.join "\n" (manyL.take 9))] = some (.ret (.int 0)) := isRI_is (by decide +kernel)
theorem whole_len : wholeL.all (fun R => decide (R.length ≤ 20) && R.all fun y => decide (y.length ≤ 20)) = true := by decide +kernel
theorem rep_lst {x : Str} {ρ : Ro} {f : Ro → EM D} {d : Nat} (hd : d < 3) (h : f ρ = some (.ok (Dn d))) : eOp dMulU (eLst (aCons (eC (.str x)) aNil)) f ρ = some (.ok (rD (List.replicate d x))) := by
  refine op_ev (d := .lst [.str x]) (e := Dn d) (lst_ev (n := 1) rfl (Nat.le_refl 1)) h ?_
  have : d = 0 ∨ d = 1 ∨ d = 2 := by omega
  rcases this with rfl | rfl | rfl <;> rfl
theorem ne_int (i : Int) : dNe (.int i) (.int i) = some (.ok (.bl false)) := by
  show some (Except.ok (D.bl (!decide (i = i)))) = _
  rw [decide_eq_true rfl]; rfl
abbrev bWh : Ro → Option Fl := (sSeq (sSet 4 (eOp dAddU (eVarB 4) (eOp dMulU (eLst (aCons (eC (.str "#")) aNil)) (eOp dMod (eCall (dDef 2 [] (dCall m_law_cell_at)) (aCons (eVar 0) (aCons (eC (.int 3)) aNil))) (eC (.int 3))))))
      (sIf (bT (eOp dNe (eCall (dDef 1 [] (dCall m_law_refused)) (aCons (eMt dJoin (eC (.str "\n")) (aCons (eVarB 4) aNil)) aNil)) (eOp dAddU (eCall dLen (aCons (eVarB 4) aNil)) (eC (.int 1)))))
        (sRet (eC (.bl false)))
        sNil))
section
variable {ns : List Int}
abbrev roW (ns : List Int) (e4 : Ent) : Ro := [.fz (.scr ns), .fz (rD manyL), .fz (rD wideL), .fz (.lst (someL.map rD)), e4, .un]
theorem len_rD {ρ : Ro} {f : Ro → EM D} {l : List Str} (h : f ρ = some (.ok (rD l))) : eCall dLen (aCons f aNil) ρ = some (.ok (Dn l.length)) := by
  refine call_ev (ds := [rD l]) (a_cons h rfl) ?_
  show some (Except.ok (D.int ((l.map D.str).length : Nat))) = _
  rw [List.length_map]
theorem wh_go : ∀ (L : List (List Str)) (e4 : Ent), (∀ R ∈ L, R ∈ wholeL) → ∃ e4', forD (gN 4) bWh (L.map rD) (roW ns e4) = some (.nx (roW ns e4'))
  | [], e4, _ => ⟨e4, rfl⟩
  | R :: L, e4, h => by
    obtain ⟨d, hd, ed⟩ := modN (f := eCall (dDef 2 [] (dCall m_law_cell_at)) (aCons (eVar 0) (aCons (eC (.int 3)) aNil))) (ρ := roW ns (.fz (rD R))) (m := 3) (cellN (k := 3) rfl rfl) (by decide)
    have hR := h R List.mem_cons_self
    have hl := List.all_eq_true.mp whole_len R hR
    simp only [Bool.and_eq_true, decide_eq_true_eq] at hl
    let R' := R ++ List.replicate d ("#" : Str)
    obtain ⟨f4, ih⟩ := wh_go L (.fz (rD R')) fun Q hQ => h Q (List.mem_cons_of_mem _ hQ)
    refine ⟨f4, ?_⟩
    rw [List.map_cons]
    refine (for_cons (ρ1 := roW ns (.fz (rD R))) (ρ2 := roW ns (.fz (rD R'))) rfl ?_).trans ih
    have s4 : sSet 4 (eOp dAddU (eVarB 4) (eOp dMulU (eLst (aCons (eC (.str "#")) aNil)) (eOp dMod (eCall (dDef 2 [] (dCall m_law_cell_at)) (aCons (eVar 0) (aCons (eC (.int 3)) aNil))) (eC (.int 3))))) (roW ns (.fz (rD R))) = some (.nx (roW ns (.fz (rD R')))) :=
      set_ev (i := 4) (op_ev (d := rD R) (e := rD (List.replicate d ("#" : Str))) rfl (rep_lst hd ed) (cat_strs (by rw [List.length_replicate]; omega)))
    have hb : ∀ y ∈ R', y.length ≤ 20 := fun y hy => by
      rcases List.mem_append.mp hy with hy | hy
      · exact of_decide_eq_true (List.all_eq_true.mp hl.2 y hy)
      · rw [(List.mem_replicate.mp hy).2]; have := rem_ok.2.1; omega
    have hR'l : R'.length = R.length + d := by show (R ++ _).length = _; rw [List.length_append, List.length_replicate]
    have href : m_law_refused [.str (Txt.join "\n" R')] = some (.ret (Dn (R.length + d + 1))) := isRI_is (List.all_eq_true.mp (List.all_eq_true.mp ref_all R hR) d (List.mem_range.mpr hd))
    have c1 : bT (eOp dNe (eCall (dDef 1 [] (dCall m_law_refused)) (aCons (eMt dJoin (eC (.str "\n")) (aCons (eVarB 4) aNil)) aNil)) (eOp dAddU (eCall dLen (aCons (eVarB 4) aNil)) (eC (.int 1)))) (roW ns (.fz (rD R'))) = some (.ok false) := by
      refine bT_ev (op_ev (d := Dn (R.length + d + 1)) (e := Dn (R.length + d + 1)) (call_ev (ds := [.str (Txt.join "\n" R')]) (a_cons (joinE (ws := R') rfl rfl 20 hb (by rw [hR'l, one_nl]; have : 21 * (R.length + d) ≤ 21 * 30 := Nat.mul_le_mul_left _ (by omega); omega)) rfl) ((def_all rfl).trans (call_ret href))) ?_ (ne_int _))
      rw [← hR'l]
      exact addN (b := 1) (len_rD rfl) rfl
    exact (seq_nx s4).trans (if_f c1 rfl)
theorem whole_is : m_law_whole [.scr ns] = some (.ret (.bl true)) := by
  have s1 : wh0 (startE 6 [.scr ns]) = some (.nx [.fz (.scr ns), .fz (rD manyL), .un, .un, .un, .un]) := by kernel_rfl
  have s2 : wh1 [.fz (.scr ns), .fz (rD manyL), .un, .un, .un, .un] = some (.nx [.fz (.scr ns), .fz (rD manyL), .fz (rD wideL), .un, .un, .un]) := by kernel_rfl
  have s3 : wh2 [.fz (.scr ns), .fz (rD manyL), .fz (rD wideL), .un, .un, .un] = some (.nx (roW ns .un)) := by kernel_rfl
  obtain ⟨e4, hf⟩ := wh_go (ns := ns) wholeL .un fun R h => h
  have hi : iOf (eOp dAddU (eLst (aCons (eLst (aCons (eC (.str "garden 1 1")) aNil)) (aCons (eVar 1) (aCons (eVar 2) aNil)))) (eVarB 3)) (roW ns .un) = some (.ok (wholeL.map rD)) := by kernel_rfl
  have s4 : wh3 (roW ns .un) = some (.nx (roW ns e4)) := for_ev hi hf
  have s5 : wh4 (roW ns e4) = some (.nx (roW ns e4)) := by
    refine if_f (or_f (bT_ev (op_ev (d := .int 2) (e := .int 2) (call_ev (ds := [.str ""]) rfl ((def_all rfl).trans (call_ret ref_e1))) rfl (ne_int _))) (bT_ev (op_ev (d := .int 3) (e := .int 3) (call_ev (ds := [.str "# garden 1 1\n"]) rfl ((def_all rfl).trans (call_ret ref_e2))) rfl (ne_int _)))) rfl
  have hs : eSl dSlU (eVarB 1) oNone (oSome (eC (.int 9))) (roW ns e4) = some (.ok (rD (manyL.take 9))) := by
    refine (sl_to (xs := manyL.map D.str) (k := 9) rfl rfl).trans ?_
    rw [← List.map_take]
  have hb : ∀ y ∈ manyL.take 9, y.length ≤ 20 := fun y hy => by
    have := List.all_eq_true.mp whole_len manyL (by simp [wholeL])
    simp only [Bool.and_eq_true, decide_eq_true_eq] at this
    exact of_decide_eq_true (List.all_eq_true.mp this.2 y (List.mem_of_mem_take hy))
  have s6 : wh5 (roW ns e4) = some (.rt (.bl true)) := by
    refine ret_ev (op_ev (d := .int 0) (e := .int 0) (call_ev (ds := [.str (Txt.join "\n" (manyL.take 9))]) (a_cons (joinE (ws := manyL.take 9) rfl hs 20 hb (by decide +kernel)) rfl) ((def_all rfl).trans (call_ret ref_e3))) rfl rfl)
  rw [wh_row]
  exact run_ret ((seq_nx s1).trans ((seq_nx s2).trans ((seq_nx s3).trans ((seq_nx s4).trans ((seq_nx s5).trans s6)))))
end
end K09
namespace K09
open PySem PySem.Spec PyProof.Rows L2 Tw
noncomputable abbrev la0 : Ro → Option Fl := (sSet 1 (eCall (dDef 1 [] (dCall m_law_rows)) (aCons (eVar 0) aNil)))
noncomputable abbrev la1 : Ro → Option Fl := (sSet 2 (eMt dJoin (eC (.str "\n")) (aCons (eVarB 1) aNil)))
noncomputable abbrev la2 : Ro → Option Fl := (sIf (bT (eOp dNe (eCall (dDef 1 [] (dCall m_law_refused)) (aCons (eVar 2) aNil)) (eC (.int 0))))
      (sRet (eC (.bl false)))
      sNil)
noncomputable abbrev la3 : Ro → Option Fl := (sFor (gN 3) (iRg dRng1 (aCons (eC (.int 4)) aNil))
      (sSeq (sSet 4 (eOp dAddU (eCall (dDef 2 [] (dCall m_law_cell_at)) (aCons (eVar 0) (aCons (eC (.int 1)) aNil))) (eOp dMulU (eC (.int 5)) (eVarB 3))))
      (sSeq (sSet 5 (eCall (dDef 2 [] (dCall m_law_cell_at)) (aCons (eVar 0) (aCons (eC (.int 2)) aNil))))
      (sSeq (sSet 6 (eOp dAddU (eC (.int 2)) (eCall (dDef 3 [] (dCall m_law_draw)) (aCons (eVar 5) (aCons (eVar 3) (aCons (eOp dSub (eCall dLen (aCons (eVarB 1) aNil)) (eC (.int 1))) aNil))))))
      (sSeq (sSet 7 (eOp dAddU (eOp dMulS (eC (.str " ")) (eOp dMod (eVarB 4) (eC (.int 3)))) (eCall (dDef 1 [] (dCall m_law_bad_pot)) (aCons (eOp dMod (eVarB 4) (eC (.int 32))) aNil))))
      (sSeq (sSet 8 (eOp dAddU (eOp dAddU (eSl dSlU (eVarB 1) oNone (oSome (eVarB 6))) (eLst (aCons (eVar 7) aNil))) (eSl dSlU (eVarB 1) (oSome (eVarB 6)) oNone)))
      (sSeq (sSet 8 (eOp dAddU (eVarB 8) (eOp dMulU (eLst (aCons (eC (.str "what")) aNil)) (eOp dMod (eOp dDiv (eVarB 4) (eC (.int 28))) (eC (.int 2))))))
      (sSeq (sIf (bT (eOp dNe (eCall (dDef 1 [] (dCall m_law_refused)) (aCons (eMt dJoin (eC (.str "\n")) (aCons (eVarB 8) aNil)) aNil)) (eOp dAddU (eVarB 6) (eC (.int 1)))))
        (sRet (eC (.bl false)))
        sNil)
      (sSeq (sSet 9 (eOp dMod (eOp dDiv (eVarB 4) (eC (.int 7))) (eC (.int 3))))
      (sSeq (sSet 7 (eCall (dDef 1 [] (dCall m_law_bad_head)) (aCons (eOp dMod (eVarB 4) (eC (.int 16))) aNil)))
      (sSeq (sSet 10 (eOp dAddU (eOp dAddU (eOp dMulU (eLst (aCons (eC (.str "#")) aNil)) (eVarB 9)) (eLst (aCons (eVar 7) aNil))) (eSl dSlU (eVarB 1) (oSome (eC (.int 1))) oNone)))
      (sIf (bT (eOp dNe (eCall (dDef 1 [] (dCall m_law_refused)) (aCons (eMt dJoin (eC (.str "\n")) (aCons (eVarB 10) aNil)) aNil)) (eOp dAddU (eC (.int 1)) (eVarB 9))))
        (sRet (eC (.bl false)))
        sNil))))))))))))
noncomputable abbrev la4 : Ro → Option Fl := (sSet 11 (eLc [12] (gN 12) (iOf (eVar 1)) (bAnd (bT (eOp dNe (eMt dStrip (eVarB 12) (aCons (eC (.str " ")) aNil)) (eC (.str "")))) (bNot (bT (eMt dStarts (eVarB 12) (aCons (eC (.str "#")) aNil))))) (eVar 12)))
noncomputable abbrev la5 : Ro → Option Fl := (sIf (bT (eOp dNe (eCall (dDef 1 [] (dCall m_written)) (aCons (eCall (dDef 1 [] (dCallQ m_read)) (aCons (eVar 2) aNil)) aNil)) (eMt dJoin (eC (.str "\n")) (aCons (eVarB 11) aNil))))
      (sRet (eC (.bl false)))
      sNil)
noncomputable abbrev la6 : Ro → Option Fl := (sRet (eCall (dDef 1 [] (dCall m_law_whole)) (aCons (eVar 0) aNil)))
theorem la_row : m_law = runD (["_law_script", "_law_rows_here", "_law_good", "_law_k", "_law_cell", "_law_other", "_law_place", "_law_odd", "_law_bad", "_law_ahead", "_law_head", "_law_plain", "_law_row"] : List Str).length (sSeq la0 (sSeq la1 (sSeq la2 (sSeq la3 (sSeq la4 (sSeq la5 la6)))))) := rfl

abbrev it0 : Ro → Option Fl := (sSet 4 (eOp dAddU (eCall (dDef 2 [] (dCall m_law_cell_at)) (aCons (eVar 0) (aCons (eC (.int 1)) aNil))) (eOp dMulU (eC (.int 5)) (eVarB 3))))
abbrev it1 : Ro → Option Fl := (sSet 5 (eCall (dDef 2 [] (dCall m_law_cell_at)) (aCons (eVar 0) (aCons (eC (.int 2)) aNil))))
abbrev it2 : Ro → Option Fl := (sSet 6 (eOp dAddU (eC (.int 2)) (eCall (dDef 3 [] (dCall m_law_draw)) (aCons (eVar 5) (aCons (eVar 3) (aCons (eOp dSub (eCall dLen (aCons (eVarB 1) aNil)) (eC (.int 1))) aNil))))))
abbrev it3 : Ro → Option Fl := (sSet 7 (eOp dAddU (eOp dMulS (eC (.str " ")) (eOp dMod (eVarB 4) (eC (.int 3)))) (eCall (dDef 1 [] (dCall m_law_bad_pot)) (aCons (eOp dMod (eVarB 4) (eC (.int 32))) aNil))))
abbrev it4 : Ro → Option Fl := (sSet 8 (eOp dAddU (eOp dAddU (eSl dSlU (eVarB 1) oNone (oSome (eVarB 6))) (eLst (aCons (eVar 7) aNil))) (eSl dSlU (eVarB 1) (oSome (eVarB 6)) oNone)))
abbrev it5 : Ro → Option Fl := (sSet 8 (eOp dAddU (eVarB 8) (eOp dMulU (eLst (aCons (eC (.str "what")) aNil)) (eOp dMod (eOp dDiv (eVarB 4) (eC (.int 28))) (eC (.int 2))))))
abbrev it6 : Ro → Option Fl := (sIf (bT (eOp dNe (eCall (dDef 1 [] (dCall m_law_refused)) (aCons (eMt dJoin (eC (.str "\n")) (aCons (eVarB 8) aNil)) aNil)) (eOp dAddU (eVarB 6) (eC (.int 1)))))
        (sRet (eC (.bl false)))
        sNil)
abbrev it7 : Ro → Option Fl := (sSet 9 (eOp dMod (eOp dDiv (eVarB 4) (eC (.int 7))) (eC (.int 3))))
abbrev it8 : Ro → Option Fl := (sSet 7 (eCall (dDef 1 [] (dCall m_law_bad_head)) (aCons (eOp dMod (eVarB 4) (eC (.int 16))) aNil)))
abbrev it9 : Ro → Option Fl := (sSet 10 (eOp dAddU (eOp dAddU (eOp dMulU (eLst (aCons (eC (.str "#")) aNil)) (eVarB 9)) (eLst (aCons (eVar 7) aNil))) (eSl dSlU (eVarB 1) (oSome (eC (.int 1))) oNone)))
abbrev it10 : Ro → Option Fl := (sIf (bT (eOp dNe (eCall (dDef 1 [] (dCall m_law_refused)) (aCons (eMt dJoin (eC (.str "\n")) (aCons (eVarB 10) aNil)) aNil)) (eOp dAddU (eC (.int 1)) (eVarB 9))))
        (sRet (eC (.bl false)))
        sNil)
abbrev bIt : Ro → Option Fl := (sSeq it0 (sSeq it1 (sSeq it2 (sSeq it3 (sSeq it4 (sSeq it5 (sSeq it6 (sSeq it7 (sSeq it8 (sSeq it9 it10))))))))))
section
variable {rows tl : List Str} {c w g : Nat} {ss : List S} {ns : List Int}
abbrev roI (ns : List Int) (rows : List Str) (e3 e4 e5 e6 e7 e8 e9 e10 : Ent) : Ro := [.fz (.scr ns), .fz (rD rows), .fz (.str (Txt.join "\n" rows)), e3, e4, e5, e6, e7, e8, e9, e10, .un, .un]
theorem to_r {ρ : Ro} {fa fk : Ro → EM D} {l : List Str} {k : Nat} (h1 : fa ρ = some (.ok (rD l))) (h2 : fk ρ = some (.ok (Dn k))) : eSl dSlU fa oNone (oSome fk) ρ = some (.ok (rD (l.take k))) := by
  refine (sl_to h1 h2).trans ?_
  rw [← List.map_take]
theorem from_r {ρ : Ro} {fa fk : Ro → EM D} {l : List Str} {k : Nat} (h1 : fa ρ = some (.ok (rD l))) (h2 : fk ρ = some (.ok (Dn k))) (hk : k ≤ l.length) : eSl dSlU fa (oSome fk) oNone ρ = some (.ok (rD (l.drop k))) := by
  refine (sl_from h1 h2 (by rw [List.length_map]; exact hk)).trans ?_
  rw [← List.map_drop]
theorem cat_r {ρ : Ro} {f g' : Ro → EM D} {a b : List Str} (h1 : f ρ = some (.ok (rD a))) (h2 : g' ρ = some (.ok (rD b))) (hl : a.length + b.length ≤ 1000) : eOp dAddU f g' ρ = some (.ok (rD (a ++ b))) := op_ev h1 h2 (cat_strs hl)
theorem one_r {ρ : Ro} {f : Ro → EM D} {x : Str} (h : f ρ = some (.ok (.str x))) : eLst (aCons f aNil) ρ = some (.ok (rD [x])) := lst_ev (n := 1) (a_cons h rfl) (Nat.le_refl 1)
theorem join_r {ρ : Ro} {f : Ro → EM D} {l : List Str} (h : f ρ = some (.ok (rD l))) (hb : ∀ y ∈ l, y.length ≤ 2000) (hl : l.length ≤ 100) : eMt dJoin (eC (.str "\n")) (aCons f aNil) ρ = some (.ok (.str (Txt.join "\n" l))) :=
  joinE rfl h 2000 hb (by rw [one_nl]; have : 2001 * l.length ≤ 2001 * 100 := Nat.mul_le_mul_left _ hl; omega)
theorem what_ok : 10 ∉ ch "what" ∧ ("what" : Str).length ≤ 10 := ⟨by decide +kernel, by decide +kernel⟩
theorem it_step (h : Good rows c w g tl ss) {k : Nat} (hk : k < 4) (e4 e5 e6 e7 e8 e9 e10 : Ent) : ∃ f4 f5 f6 f7 f8 f9 f10, bIt (roI ns rows (.fz (Dn k)) e4 e5 e6 e7 e8 e9 e10) = some (.nx (roI ns rows (.fz (Dn k)) f4 f5 f6 f7 f8 f9 f10)) := by
  have hl := h.len2
  let cell := ns.getD 1 0 + 5 * (k : Int)
  let oth := ns.getD 2 0
  have s0 : it0 (roI ns rows (.fz (Dn k)) e4 e5 e6 e7 e8 e9 e10) = some (.nx (roI ns rows (.fz (Dn k)) (.fz (.int cell)) e5 e6 e7 e8 e9 e10)) :=
    set_ev (i := 4) (op_ev (d := .int (ns.getD 1 0)) (e := .int (5 * (k : Int))) (cellN (k := 1) rfl rfl) (op_ev (d := .int 5) (e := Dn k) rfl rfl (mulW (by omega))) rfl)
  have s1 : it1 (roI ns rows (.fz (Dn k)) (.fz (.int cell)) e5 e6 e7 e8 e9 e10) = some (.nx (roI ns rows (.fz (Dn k)) (.fz (.int cell)) (.fz (.int oth)) e6 e7 e8 e9 e10)) := set_ev (i := 5) (cellN (k := 2) rfl rfl)
  let ρ := fun (e6 e7 e8 e9 e10 : Ent) => roI ns rows (.fz (Dn k)) (.fz (.int cell)) (.fz (.int oth)) e6 e7 e8 e9 e10
  have elen : eOp dSub (eCall dLen (aCons (eVarB 1) aNil)) (eC (.int 1)) (ρ e6 e7 e8 e9 e10) = some (.ok (Dn (rows.length - 1))) := by
    refine op_ev (d := Dn rows.length) (e := .int 1) (len_rD rfl) rfl ?_
    show some (Except.ok (D.int ((rows.length : Int) - 1))) = some (Except.ok (D.int ((rows.length - 1 : Nat) : Int)))
    congr 3
    omega
  obtain ⟨v, hv, ev⟩ := drawX (f := eVar 5) (g := eVar 3) (ρ := ρ e6 e7 e8 e9 e10) (c := oth) (k := k) rfl rfl elen (by omega)
  let p := 2 + v
  have s2 : it2 (ρ e6 e7 e8 e9 e10) = some (.nx (ρ (.fz (Dn p)) e7 e8 e9 e10)) := set_ev (i := 6) (addN (a := 2) rfl ev)
  obtain ⟨b, hb, eb⟩ := modN (f := eVarB 4) (ρ := ρ (.fz (Dn p)) e7 e8 e9 e10) (i := cell) (m := 3) rfl (by decide)
  obtain ⟨q, hq, eq⟩ := modN (f := eVarB 4) (ρ := ρ (.fz (Dn p)) e7 e8 e9 e10) (i := cell) (m := 32) rfl (by decide)
  let odd := spN b ++ badT.getD q ""
  obtain ⟨o1, o2, o3⟩ := bad_is hq (show b < 4 by omega)
  have hodd : odd.length = (spN b).length + (badT.getD q "").length := by rw [← ch_len, ch_app, List.length_append]; rfl
  have s3 : it3 (ρ (.fz (Dn p)) e7 e8 e9 e10) = some (.nx (ρ (.fz (Dn p)) (.fz (.str odd)) e8 e9 e10)) :=
    set_ev (i := 7) (op_ev (d := .str (spN b)) (e := .str (badT.getD q "")) (mul_sp eb (by omega)) (call_ev (ds := [Dn q]) (a_cons eq rfl) ((def_all rfl).trans (call_ret (badT_is hq)))) (add_str (by have : odd.length ≤ 50 := o1; omega)))
  let l1 := rows.take p ++ [odd] ++ rows.drop p
  have hl1 : l1.length = rows.length + 1 := by
    show (rows.take p ++ [odd] ++ rows.drop p).length = _
    rw [List.length_append, List.length_append, List.length_take, List.length_drop, List.length_singleton]; omega
  have s4 : it4 (ρ (.fz (Dn p)) (.fz (.str odd)) e8 e9 e10) = some (.nx (ρ (.fz (Dn p)) (.fz (.str odd)) (.fz (rD l1)) e9 e10)) :=
    set_ev (i := 8) (cat_r (cat_r (to_r (k := p) rfl rfl) (one_r rfl) (by rw [List.length_take, List.length_singleton]; omega)) (from_r (k := p) rfl rfl (by omega)) (by rw [List.length_append, List.length_take, List.length_drop, List.length_singleton]; omega))
  obtain ⟨d, hd, ed⟩ := modN (f := eOp dDiv (eVarB 4) (eC (.int 28))) (ρ := ρ (.fz (Dn p)) (.fz (.str odd)) (.fz (rD l1)) e9 e10) (m := 2) (divE (i := cell) rfl (by decide)) (by decide)
  let l2 := l1 ++ List.replicate d ("what" : Str)
  have s5 : it5 (ρ (.fz (Dn p)) (.fz (.str odd)) (.fz (rD l1)) e9 e10) = some (.nx (ρ (.fz (Dn p)) (.fz (.str odd)) (.fz (rD l2)) e9 e10)) :=
    set_ev (i := 8) (cat_r (a := l1) rfl (rep_lst (by omega) ed) (by rw [List.length_replicate]; omega))
  have hpost : ∀ y ∈ List.replicate d ("what" : Str), y.length ≤ 2000 ∧ 10 ∉ ch y := fun y hy => by
    rw [(List.mem_replicate.mp hy).2]
    exact ⟨by have := what_ok.2; omega, what_ok.1⟩
  have el2 : l2 = rows.take p ++ odd :: (rows.drop p ++ List.replicate d ("what" : Str)) := by
    show rows.take p ++ [odd] ++ rows.drop p ++ List.replicate d ("what" : Str) = _
    simp only [List.append_assoc, List.cons_append, List.nil_append]
  have hl2 : ∀ y ∈ l2, y.length ≤ 2000 := fun y hy => by
    rw [el2] at hy
    rcases List.mem_append.mp hy with hy | hy
    · exact (h.free y (List.mem_of_mem_take hy)).1
    rcases List.mem_cons.mp hy with rfl | hy
    · have : odd.length ≤ 50 := o1
      omega
    rcases List.mem_append.mp hy with hy | hy
    · exact (h.free y (List.mem_of_mem_drop hy)).1
    · exact (hpost y hy).1
  have r1 : m_law_refused [.str (Txt.join "\n" l2)] = some (.ret (.int ((p : Int) + 1))) := by
    rw [el2]
    exact h.spoilt (p := p) (by omega) hq (by omega) (by rw [List.length_replicate]; omega) hpost
  have s6 : it6 (ρ (.fz (Dn p)) (.fz (.str odd)) (.fz (rD l2)) e9 e10) = some (.nx (ρ (.fz (Dn p)) (.fz (.str odd)) (.fz (rD l2)) e9 e10)) := by
    refine if_f (bT_ev (op_ev (d := .int ((p : Int) + 1)) (e := .int ((p : Int) + 1)) (call_ev (ds := [.str (Txt.join "\n" l2)]) (a_cons (join_r rfl hl2 (by show (l1 ++ _).length ≤ 100; rw [List.length_append, List.length_replicate]; omega)) rfl) ((def_all rfl).trans (call_ret r1))) (op_ev (d := Dn p) (e := .int 1) rfl rfl rfl) (ne_int _))) rfl
  obtain ⟨a, ha, ea⟩ := modN (f := eOp dDiv (eVarB 4) (eC (.int 7))) (ρ := ρ (.fz (Dn p)) (.fz (.str odd)) (.fz (rD l2)) e9 e10) (m := 3) (divE (i := cell) rfl (by decide)) (by decide)
  have s7 : it7 (ρ (.fz (Dn p)) (.fz (.str odd)) (.fz (rD l2)) e9 e10) = some (.nx (ρ (.fz (Dn p)) (.fz (.str odd)) (.fz (rD l2)) (.fz (Dn a)) e10)) := set_ev (i := 9) ea
  obtain ⟨z, hz, ez⟩ := modN (f := eVarB 4) (ρ := ρ (.fz (Dn p)) (.fz (.str odd)) (.fz (rD l2)) (.fz (Dn a)) e10) (i := cell) (m := 16) rfl (by decide)
  let bh := badH.getD z ""
  obtain ⟨b1, b2, b3⟩ := badh_is hz
  have s8 : it8 (ρ (.fz (Dn p)) (.fz (.str odd)) (.fz (rD l2)) (.fz (Dn a)) e10) = some (.nx (ρ (.fz (Dn p)) (.fz (.str bh)) (.fz (rD l2)) (.fz (Dn a)) e10)) := set_ev (i := 7) (call_ev (ds := [Dn z]) (a_cons ez rfl) ((def_all rfl).trans (call_ret (badH_is hz))))
  let l3 := List.replicate a ("#" : Str) ++ [bh] ++ rows.drop 1
  have s9 : it9 (ρ (.fz (Dn p)) (.fz (.str bh)) (.fz (rD l2)) (.fz (Dn a)) e10) = some (.nx (ρ (.fz (Dn p)) (.fz (.str bh)) (.fz (rD l2)) (.fz (Dn a)) (.fz (rD l3)))) :=
    set_ev (i := 10) (cat_r (cat_r (rep_lst (d := a) (by omega) rfl) (one_r rfl) (by rw [List.length_replicate, List.length_singleton]; omega)) (from_r (k := 1) rfl rfl (by omega)) (by rw [List.length_append, List.length_replicate, List.length_drop, List.length_singleton]; omega))
  have el3 : l3 = List.replicate a ("#" : Str) ++ bh :: rows.drop 1 := by
    show List.replicate a ("#" : Str) ++ [bh] ++ rows.drop 1 = _
    rw [List.append_assoc]; rfl
  have hl3 : ∀ y ∈ l3, y.length ≤ 2000 := fun y hy => by
    rw [el3] at hy
    rcases List.mem_append.mp hy with hy | hy
    · rw [(List.mem_replicate.mp hy).2]
      have := rem_ok.2.1
      omega
    rcases List.mem_cons.mp hy with rfl | hy
    · have : bh.length ≤ 40 := b1
      omega
    · exact (h.free y (List.mem_of_mem_drop hy)).1
  have r2 : m_law_refused [.str (Txt.join "\n" l3)] = some (.ret (.int ((a : Int) + 1))) := by
    rw [el3]
    exact h.headless hz (by omega)
  have s10 : it10 (ρ (.fz (Dn p)) (.fz (.str bh)) (.fz (rD l2)) (.fz (Dn a)) (.fz (rD l3))) = some (.nx (ρ (.fz (Dn p)) (.fz (.str bh)) (.fz (rD l2)) (.fz (Dn a)) (.fz (rD l3)))) := by
    refine if_f (bT_ev (op_ev (d := .int ((a : Int) + 1)) (e := .int ((a : Int) + 1)) (call_ev (ds := [.str (Txt.join "\n" l3)]) (a_cons (join_r rfl hl3 (by rw [el3, List.length_append, List.length_cons, List.length_replicate, List.length_drop]; omega)) rfl) ((def_all rfl).trans (call_ret r2))) (op_ev (d := .int 1) (e := Dn a) rfl rfl ?_) (ne_int _))) rfl
    show some (Except.ok (D.int (1 + (a : Int)))) = _
    rw [Int.add_comm]
  exact ⟨_, _, _, _, _, _, _, (seq_nx s0).trans ((seq_nx s1).trans ((seq_nx s2).trans ((seq_nx s3).trans ((seq_nx s4).trans ((seq_nx s5).trans ((seq_nx s6).trans ((seq_nx s7).trans ((seq_nx s8).trans ((seq_nx s9).trans s10)))))))))⟩
theorem it_go (h : Good rows c w g tl ss) : ∀ (m s : Nat) (e3 e4 e5 e6 e7 e8 e9 e10 : Ent), s + m ≤ 4 → ∃ f3 f4 f5 f6 f7 f8 f9 f10, forD (gN 3) bIt ((List.range' s m).map Dn) (roI ns rows e3 e4 e5 e6 e7 e8 e9 e10) = some (.nx (roI ns rows f3 f4 f5 f6 f7 f8 f9 f10))
  | 0, s, e3, e4, e5, e6, e7, e8, e9, e10, _ => ⟨_, _, _, _, _, _, _, _, rfl⟩
  | m + 1, s, e3, e4, e5, e6, e7, e8, e9, e10, hs => by
    obtain ⟨f4, f5, f6, f7, f8, f9, f10, hb⟩ := it_step (ns := ns) h (k := s) (by omega) e4 e5 e6 e7 e8 e9 e10
    obtain ⟨g3, g4, g5, g6, g7, g8, g9, g10, hf⟩ := it_go h m (s + 1) (.fz (Dn s)) f4 f5 f6 f7 f8 f9 f10 (by omega)
    refine ⟨g3, g4, g5, g6, g7, g8, g9, g10, ?_⟩
    rw [List.range'_succ, List.map_cons]
    exact (for_cons (ρ1 := roI ns rows (.fz (Dn s)) e4 e5 e6 e7 e8 e9 e10) rfl hb).trans hf
theorem keep_lc {ρ : Ro} (hfi : eVar 1 ρ = some (.ok (rD rows))) (hb : ∀ y ∈ rows, y.length ≤ 2000) (hl : rows.length ≤ 100) (hg : ∀ d : D, ∃ ρ1, gN 12 d (wipeE ρ [12]) = some ρ1 ∧ eVar 12 ρ1 = some (.ok d) ∧ eVarB 12 ρ1 = some (.ok d)) :
    eLc [12] (gN 12) (iOf (eVar 1)) (bAnd (bT (eOp dNe (eMt dStrip (eVarB 12) (aCons (eC (.str " ")) aNil)) (eC (.str "")))) (bNot (bT (eMt dStarts (eVarB 12) (aCons (eC (.str "#")) aNil))))) (eVar 12) ρ = some (.ok (rD (rows.filter keepB))) := by
  refine lc_ev (ds := rows.map D.str) (iof_ev hfi) ?_ (by rw [List.length_map]; have := List.length_filter_le keepB rows; omega)
  have key : ∀ l : List Str, (∀ y ∈ l, y.length ≤ 2000) → lcD (gN 12) (bAnd (bT (eOp dNe (eMt dStrip (eVarB 12) (aCons (eC (.str " ")) aNil)) (eC (.str "")))) (bNot (bT (eMt dStarts (eVarB 12) (aCons (eC (.str "#")) aNil))))) (eVar 12) (wipeE ρ [12]) (l.map D.str) = some ((l.filter keepB).map D.str) := fun l => by
    induction l with
    | nil => exact fun _ => rfl
    | cons x l ih =>
      intro hm
      obtain ⟨ρ1, g1, g2, g3⟩ := hg (.str x)
      have hx := hm x List.mem_cons_self
      have c1 : bT (eOp dNe (eMt dStrip (eVarB 12) (aCons (eC (.str " ")) aNil)) (eC (.str ""))) ρ1 = some (.ok (decide (Txt.stripChars x " " ≠ ""))) := by
        refine bT_ev (op_ev (d := .str (Txt.stripChars x " ")) (e := .str "") (mt_ev (z := x) (ds := [.str " "]) g3 rfl ?_) rfl ?_)
        · show (if cLine x " " = true then ok (D.str (Txt.stripChars x " ")) else none) = _
          have : cLine x " " = true := decide_eq_true (by rw [sizeL]; omega)
          rw [if_pos this]
          rfl
        · show some (Except.ok (D.bl (!decide (Txt.stripChars x " " = "")))) = _
          rw [← decide_not]
      have c2 : bNot (bT (eMt dStarts (eVarB 12) (aCons (eC (.str "#")) aNil))) ρ1 = some (.ok (!Txt.startswith x "#")) := not_tt _ _ _ (bT_ev (mt_ev (z := x) (ds := [.str "#"]) g3 rfl rfl))
      have cc : (bAnd (bT (eOp dNe (eMt dStrip (eVarB 12) (aCons (eC (.str " ")) aNil)) (eC (.str "")))) (bNot (bT (eMt dStarts (eVarB 12) (aCons (eC (.str "#")) aNil))))) ρ1 = some (.ok (keepB x)) := by
        unfold keepB
        cases hq : decide (Txt.stripChars x " " ≠ "") with
        | false => rw [hq] at c1; exact and_f c1
        | true => rw [hq] at c1; exact and_t c1 c2
      rw [List.map_cons]
      unfold lcD
      rw [g1]
      dsimp only
      rw [cc]
      cases hq : keepB x with
      | true =>
        dsimp only
        rw [g2]
        dsimp only
        rw [ih fun y hy => hm y (List.mem_cons_of_mem _ hy), List.filter_cons, if_pos hq]
        rfl
      | false =>
        dsimp only
        rw [ih fun y hy => hm y (List.mem_cons_of_mem _ hy), List.filter_cons, if_neg (by rw [hq]; decide)]
  exact key rows hb
end
theorem plain : ∀ ns : List Int, ns.length ≤ 63 → m_law [.scr ns] = some (.ret (.bl true)) := fun ns hns => by
  obtain ⟨rows, c, w, g, tl, ss, h, hr⟩ := rows_is ns
  obtain ⟨ks, hk, hrd⟩ := h.read
  have hl := h.len2
  have hb : ∀ y ∈ rows, y.length ≤ 2000 := fun y hy => (h.free y hy).1
  let good := Txt.join "\n" rows
  have r0 : la0 (startE 13 [.scr ns]) = some (.nx [.fz (.scr ns), .fz (rD rows), .un, .un, .un, .un, .un, .un, .un, .un, .un, .un, .un]) := set_ev (i := 1) (call_ev (ds := [.scr ns]) rfl ((def_all rfl).trans (call_reto hr)))
  have r1 : la1 [.fz (.scr ns), .fz (rD rows), .un, .un, .un, .un, .un, .un, .un, .un, .un, .un, .un] = some (.nx (roI ns rows .un .un .un .un .un .un .un .un)) := set_ev (i := 2) (join_r rfl hb (by omega))
  have r2 : la2 (roI ns rows .un .un .un .un .un .un .un .un) = some (.nx (roI ns rows .un .un .un .un .un .un .un .un)) :=
    if_f (bT_ev (op_ev (d := .int 0) (e := .int 0) (call_ev (ds := [.str good]) rfl ((def_all rfl).trans (call_ret (ref_ok hrd)))) rfl (ne_int _))) rfl
  obtain ⟨f3, f4, f5, f6, f7, f8, f9, f10, hf⟩ := it_go (ns := ns) h 4 0 .un .un .un .un .un .un .un .un (by omega)
  have r3 : la3 (roI ns rows .un .un .un .un .un .un .un .un) = some (.nx (roI ns rows f3 f4 f5 f6 f7 f8 f9 f10)) := for_ev (rg_ev (ds := [Dn 4]) rfl (rng1_is 4 (by omega))) hf
  let ρ := fun (e11 : Ent) => ([.fz (.scr ns), .fz (rD rows), .fz (.str good), f3, f4, f5, f6, f7, f8, f9, f10, e11, .un] : Ro)
  have r4 : la4 (ρ .un) = some (.nx (ρ (.fz (rD (rows.filter keepB))))) := set_ev (i := 11) (keep_lc rfl hb (by omega) fun d => ⟨_, rfl, rfl, rfl⟩)
  have hsok := h.sok
  have hbT : ∀ y ∈ rowsT (ivS g :: ss) c w 0, y.length ≤ 2000 := fun y hy => by
    rw [← h.keep] at hy
    exact hb y (List.mem_filter.mp hy).1
  have r5 : la5 (ρ (.fz (rD (rows.filter keepB)))) = some (.nx (ρ (.fz (rD (rows.filter keepB))))) := by
    rw [h.keep]
    have hwr := written_is (ks := ks) hsok h.sm
    rw [Int.toNat_natCast] at hwr
    refine if_f (bT_ev (op_ev (d := .str (txtT (ivS g :: ss) c w 0)) (e := .str (txtT (ivS g :: ss) c w 0)) (call_ev (ds := [gdD ((ivS g :: ss).map S.p) c w (0 : Nat) ks]) (a_cons (call_ev (ds := [.str good]) rfl ((def_all rfl).trans ?_)) rfl) ((def_all rfl).trans (call_ret hwr))) (join_r rfl hbT (by show (ptT (ivS g) :: ss.map ptT).length + 1 ≤ 100; rw [List.length_cons, List.length_map]; have := h.slen; omega)) (ne_str _))) rfl
    unfold dCallQ
    rw [hrd]
    rfl
  have r6 : la6 (ρ (.fz (rD (rows.filter keepB)))) = some (.rt (.bl true)) := ret_ev (call_ev (ds := [.scr ns]) rfl ((def_all rfl).trans (call_ret whole_is)))
  rw [la_row]
  exact run_ret ((seq_nx r0).trans ((seq_nx r1).trans ((seq_nx r2).trans ((seq_nx r3).trans ((seq_nx r4).trans ((seq_nx r5).trans r6))))))
end K09
namespace K09
open PySem PySem.Spec PyProof.Rows L2 Tw
def top (i : Nat) : Stmt := PySem.Challenge.pw_thirstwise_k09_texts_misread.main.body.getD i (.Pass ⟨0, 0, 0, 0⟩)
abbrev s_law_bad_head : Stmt := top 38
abbrev s_law_bad_pot : Stmt := top 37
abbrev s_law_cell_at : Stmt := top 33
abbrev s_law_draw : Stmt := top 34
abbrev s_law_sorts : Stmt := top 35
abbrev s_BadRow_init : Stmt := inClass (top 4) 0
abbrev s_Garden_size : Stmt := inClass (top 23) 1
abbrev s_is_whole : Stmt := top 14
abbrev s_within : Stmt := top 15
abbrev s_Garden_init : Stmt := inClass (top 23) 0
abbrev s_number_in : Stmt := top 27
abbrev s_head_in : Stmt := top 30
abbrev s_is_name : Stmt := top 16
abbrev s_Pot_init : Stmt := inClass (top 17) 0
abbrev s_Cactus_init : Stmt := inClass (top 18) 0
abbrev s_pot_in : Stmt := top 29
abbrev s_words_of : Stmt := top 28
abbrev s_read : Stmt := top 31
abbrev s_law_refused : Stmt := top 36
abbrev s_law_rows : Stmt := top 39
abbrev s_law_whole : Stmt := top 40
abbrev s_Cactus_words : Stmt := inClass (top 18) 2
abbrev s_Pot_words : Stmt := inClass (top 17) 2
abbrev s_bits_of : Stmt := top 10
abbrev s_written : Stmt := top 26
abbrev s_law : Stmt := top 41
structure Xa where
  a_BadDay : Addr
  a_BadPot : Addr
  a_BadRow : Addr
  a_GardenError : Addr
  a_NoPot : Addr
  a_NoState : Addr
  a_TooMany : Addr
structure Txt (K : PySem.W.Frag) (mg : Str → Option Value) (A : Ad) (Z : Xa) : Prop where
  b_ValueError : mg "ValueError" = none
  b_all : mg "all" = none
  b_bool : mg "bool" = none
  b_divmod : mg "divmod" = none
  b_int : mg "int" = none
  b_isinstance : mg "isinstance" = none
  b_len : mg "len" = none
  b_list : mg "list" = none
  b_range : mg "range" = none
  b_str : mg "str" = none
  b_tuple : mg "tuple" = none
  g_FIGURES : ∃ u, mg "FIGURES" = some u ∧ RelV (V.str "0123456789") u
  g_LETTERS : ∃ u, mg "LETTERS" = some u ∧ RelV (V.str "abcdefghijklmnopqrstuvwxyz") u
  g_LONGEST : ∃ u, mg "LONGEST" = some u ∧ RelV (V.int 60) u
  g_LONGEST_WEEK : ∃ u, mg "LONGEST_WEEK" = some u ∧ RelV (V.int 14) u
  g_MOST_POTS : ∃ u, mg "MOST_POTS" = some u ∧ RelV (V.int 8) u
  g_MOST_STATES : ∃ u, mg "MOST_STATES" = some u ∧ RelV (V.int 20000) u
  cf : ClsF K A
  is_Pot : IsTab K A (.ref (A.cl .pot)) isPot
  g_Pot : mg "Pot" = some (.ref (A.cl .pot))
  gx_BadDay : mg "BadDay" = some (.ref Z.a_BadDay)
  gx_BadPot : mg "BadPot" = some (.ref Z.a_BadPot)
  gx_BadRow : mg "BadRow" = some (.ref Z.a_BadRow)
  gx_GardenError : mg "GardenError" = some (.ref Z.a_GardenError)
  gx_NoPot : mg "NoPot" = some (.ref Z.a_NoPot)
  gx_NoState : mg "NoState" = some (.ref Z.a_NoState)
  gx_TooMany : mg "TooMany" = some (.ref Z.a_TooMany)
  isE_BadDay : IsTabX K A (.ref Z.a_BadDay) isE_BadDay
  isE_BadPot : IsTabX K A (.ref Z.a_BadPot) isE_BadPot
  isE_BadRow : IsTabX K A (.ref Z.a_BadRow) isE_BadRow
  isE_NoPot : IsTabX K A (.ref Z.a_NoPot) isE_NoPot
  isE_NoState : IsTabX K A (.ref Z.a_NoState) isE_NoState
  isE_TooMany : IsTabX K A (.ref Z.a_TooMany) isE_TooMany
  isE_ValueError : IsTabX K A (.type "ValueError") isE_ValueError
  ct_BadPot : ∀ y b, ct_BadPot y = some b → PySem.W.exmOne K (.ref (A.xc y)) (.ref Z.a_BadPot) = some b
  ct_GardenError : ∀ y b, ct_GardenError y = some b → PySem.W.exmOne K (.ref (A.xc y)) (.ref Z.a_GardenError) = some b
  ct_TooMany : ∀ y b, ct_TooMany y = some b → PySem.W.exmOne K (.ref (A.xc y)) (.ref Z.a_TooMany) = some b
  xd_BadRow : XfD K A .badRow "row"
  x_BadPot : Xcl K mg A "BadPot" .badPot
  x_NoPot : Xcl K mg A "NoPot" .noPot
  x_NoState : Xcl K mg A "NoState" .noState
  x_TooMany : Xcl K mg A "TooMany" .tooMany
section
variable {P : Program} {w : World} {K : PySem.W.Frag} {mg : Str → Option Value} {base : Heap} {A : Ad} {Z : Xa}
theorem sc_law_bad_head : FnScope ["_law_way", "_law_rows_here"] ["_law_way"] (defScope s_law_bad_head) := ⟨rfl, rfl, rfl, by decide +kernel, rfl, by decide +kernel, by decide +kernel⟩
theorem ok_law_bad_head {f : Addr} {fd : FuncData} (F : Fun K "_law_bad_head" "_law_bad_head" s_law_bad_head f fd) (T : Txt K mg A Z)  : FnOk P w K mg base (L2N.CX P w) 1 f fd ["_law_way"] (spD K A 1 m_law_bad_head) :=
  fnD F sc_law_bad_head fun cdv A' outer s H F0 E hr => by
    have S := sc_law_bad_head
    have tk : L2N.Takes (cxOf (L2N.CX P w) P w K mg base ["_law_way", "_law_rows_here"] "_law_bad_head" (defScope s_law_bad_head) f cdv A' outer s H E) (fxOf A H F0 E).W := L2N.takes_of rfl rfl rfl rfl
    have hp : PassesOwn (model P w) (A'.deeper (envOfC "_law_bad_head" (defScope s_law_bad_head) s.heap.objs.size f cdv)) (envOfC "_law_bad_head" (defScope s_law_bad_head) s.heap.objs.size f cdv) (cxOf (L2N.CX P w) P w K mg base ["_law_way", "_law_rows_here"] "_law_bad_head" (defScope s_law_bad_head) f cdv A' outer s H E).xe := passes_of rfl
    have hu := hr.units
    have hu5 := hu65 hr
    exact (pks_cons (pks_set (fun te h => ps_set (i := 1) S.nd rfl (Or.inl rfl) h) (pk_lst (k := .fz) (pka_cons pk_str (pka_cons pk_str (pka_cons pk_str (pka_cons pk_str (pka_cons pk_str (pka_cons pk_str pka_nil))))))))
    (pks_cons (pks_set (fun te h => ps_set (i := 1) S.nd rfl (Or.inl rfl) h) (pk_addU (pk_varB (pv 1)) (pk_bw (pk_lst (k := .fz) (pka_cons pk_str (pka_cons pk_str (pka_cons pk_str (pka_cons pk_str (pka_cons pk_str pka_nil)))))))))
    (pks_one (pks_ret (pk_ix (fun _ _ => rfl) (pk_bw (pk_addU (pk_varB (pv 1)) (pk_bw (pk_lst (k := .fz) (pka_cons pk_str (pka_cons pk_str (pka_cons pk_str (pka_cons pk_str (pka_cons pk_str pka_nil))))))))) (pk_varB (pv 0)))))))
theorem sc_law_bad_pot : FnScope ["_law_way", "_law_rows_here"] ["_law_way"] (defScope s_law_bad_pot) := ⟨rfl, rfl, rfl, by decide +kernel, rfl, by decide +kernel, by decide +kernel⟩
theorem ok_law_bad_pot {f : Addr} {fd : FuncData} (F : Fun K "_law_bad_pot" "_law_bad_pot" s_law_bad_pot f fd) (T : Txt K mg A Z)  : FnOk P w K mg base (L2N.CX P w) 1 f fd ["_law_way"] (spD K A 1 m_law_bad_pot) :=
  fnD F sc_law_bad_pot fun cdv A' outer s H F0 E hr => by
    have S := sc_law_bad_pot
    have tk : L2N.Takes (cxOf (L2N.CX P w) P w K mg base ["_law_way", "_law_rows_here"] "_law_bad_pot" (defScope s_law_bad_pot) f cdv A' outer s H E) (fxOf A H F0 E).W := L2N.takes_of rfl rfl rfl rfl
    have hp : PassesOwn (model P w) (A'.deeper (envOfC "_law_bad_pot" (defScope s_law_bad_pot) s.heap.objs.size f cdv)) (envOfC "_law_bad_pot" (defScope s_law_bad_pot) s.heap.objs.size f cdv) (cxOf (L2N.CX P w) P w K mg base ["_law_way", "_law_rows_here"] "_law_bad_pot" (defScope s_law_bad_pot) f cdv A' outer s H E).xe := passes_of rfl
    have hu := hr.units
    have hu5 := hu65 hr
    exact (pks_cons (pks_set (fun te h => ps_set (i := 1) S.nd rfl (Or.inl rfl) h) (pk_lst (k := .fz) (pka_cons pk_str (pka_cons pk_str (pka_cons pk_str (pka_cons pk_str (pka_cons pk_str (pka_cons pk_str (pka_cons pk_str (pka_cons pk_str pka_nil))))))))))
    (pks_cons (pks_set (fun te h => ps_set (i := 1) S.nd rfl (Or.inl rfl) h) (pk_addU (pk_varB (pv 1)) (pk_bw (pk_lst (k := .fz) (pka_cons pk_str (pka_cons pk_str pka_nil))))))
    (pks_cons (pks_set (fun te h => ps_set (i := 1) S.nd rfl (Or.inl rfl) h) (pk_addU (pk_varB (pv 1)) (pk_bw (pk_lst (k := .fz) (pka_cons pk_str (pka_cons pk_str (pka_cons pk_str (pka_cons pk_str (pka_cons pk_str pka_nil)))))))))
    (pks_cons (pks_set (fun te h => ps_set (i := 1) S.nd rfl (Or.inl rfl) h) (pk_addU (pk_varB (pv 1)) (pk_bw (pk_lst (k := .fz) (pka_cons pk_str (pka_cons pk_str (pka_cons pk_str (pka_cons pk_str (pka_cons pk_str (pka_cons pk_str (pka_cons pk_str pka_nil)))))))))))
    (pks_cons (pks_set (fun te h => ps_set (i := 1) S.nd rfl (Or.inl rfl) h) (pk_addU (pk_varB (pv 1)) (pk_bw (pk_lst (k := .fz) (pka_cons pk_str (pka_cons pk_str (pka_cons pk_str (pka_cons pk_str (pka_cons pk_str (pka_cons pk_str pka_nil))))))))))
    (pks_cons (pks_set (fun te h => ps_set (i := 1) S.nd rfl (Or.inl rfl) h) (pk_addU (pk_varB (pv 1)) (pk_bw (pk_lst (k := .fz) (pka_cons pk_str (pka_cons pk_str (pka_cons pk_str (pka_cons pk_str pka_nil))))))))
    (pks_one (pks_ret (pk_ix (fun _ _ => rfl) (pk_varB (pv 1)) (pk_varB (pv 0)))))))))))
theorem sc_law_cell_at : FnScope ["_law_script", "_law_k"] ["_law_script", "_law_k"] (defScope s_law_cell_at) := ⟨rfl, rfl, rfl, by decide +kernel, rfl, by decide +kernel, by decide +kernel⟩
theorem ok_law_cell_at {f : Addr} {fd : FuncData} (F : Fun K "_law_cell_at" "_law_cell_at" s_law_cell_at f fd) (T : Txt K mg A Z)  : FnOk P w K mg base (L2N.CX P w) 1 f fd ["_law_script", "_law_k"] (spD K A 2 m_law_cell_at) :=
  fnD F sc_law_cell_at fun cdv A' outer s H F0 E hr => by
    have S := sc_law_cell_at
    have tk : L2N.Takes (cxOf (L2N.CX P w) P w K mg base ["_law_script", "_law_k"] "_law_cell_at" (defScope s_law_cell_at) f cdv A' outer s H E) (fxOf A H F0 E).W := L2N.takes_of rfl rfl rfl rfl
    have hp : PassesOwn (model P w) (A'.deeper (envOfC "_law_cell_at" (defScope s_law_cell_at) s.heap.objs.size f cdv)) (envOfC "_law_cell_at" (defScope s_law_cell_at) s.heap.objs.size f cdv) (cxOf (L2N.CX P w) P w K mg base ["_law_script", "_law_k"] "_law_cell_at" (defScope s_law_cell_at) f cdv A' outer s H E).xe := passes_of rfl
    have hu := hr.units
    have hu5 := hu65 hr
    exact (pks_cons (pks_if (pt_lt (pk_varB (pv 1)) (pk_bw (pk_len T.b_len rfl (pka_cons (pk_varB (pv 0)) pka_nil))))
      (pks_one (pks_ret (pk_ix (fun _ _ => rfl) (pk_varB (pv 0)) (pk_varB (pv 1)))))
      pks_nil)
    (pks_one (pks_ret pk_int)))
theorem sc_law_draw : FnScope ["_law_cell", "_law_k", "_law_many", "_law_primes", "_law_blend"] ["_law_cell", "_law_k", "_law_many"] (defScope s_law_draw) := ⟨rfl, rfl, rfl, by decide +kernel, rfl, by decide +kernel, by decide +kernel⟩
theorem ok_law_draw {f : Addr} {fd : FuncData} (F : Fun K "_law_draw" "_law_draw" s_law_draw f fd) (T : Txt K mg A Z)  : FnOk P w K mg base (L2N.CX P w) 1 f fd ["_law_cell", "_law_k", "_law_many"] (spD K A 3 m_law_draw) :=
  fnD F sc_law_draw fun cdv A' outer s H F0 E hr => by
    have S := sc_law_draw
    have tk : L2N.Takes (cxOf (L2N.CX P w) P w K mg base ["_law_cell", "_law_k", "_law_many", "_law_primes", "_law_blend"] "_law_draw" (defScope s_law_draw) f cdv A' outer s H E) (fxOf A H F0 E).W := L2N.takes_of rfl rfl rfl rfl
    have hp : PassesOwn (model P w) (A'.deeper (envOfC "_law_draw" (defScope s_law_draw) s.heap.objs.size f cdv)) (envOfC "_law_draw" (defScope s_law_draw) s.heap.objs.size f cdv) (cxOf (L2N.CX P w) P w K mg base ["_law_cell", "_law_k", "_law_many", "_law_primes", "_law_blend"] "_law_draw" (defScope s_law_draw) f cdv A' outer s H E).xe := passes_of rfl
    have hu := hr.units
    have hu5 := hu65 hr
    exact (pks_cons (pks_set (fun te h => ps_set (i := 3) S.nd rfl (Or.inl rfl) h) (pk_tup (pka_cons pk_int (pka_cons pk_int (pka_cons pk_int (pka_cons pk_int (pka_cons pk_int (pka_cons pk_int (pka_cons pk_int (pka_cons pk_int pka_nil))))))))))
    (pks_cons (pks_set (fun te h => ps_set (i := 4) S.nd rfl (Or.inl rfl) h) (pk_addU (pk_bw (pk_addU (pk_bw (pk_mulU (pk_varB (pv 0)) (pk_bw pk_int))) (pk_bw (pk_mulU (pk_varB (pv 1)) (pk_bw pk_int))))) (pk_bw (pk_mulU (pk_bw (pk_mod (pk_bw (pk_div (pk_varB (pv 0)) (pk_bw pk_int))) (pk_bw pk_int))) (pk_bw pk_int)))))
    (pks_one (pks_ret (pk_mod (pk_bw (pk_mod (pk_varB (pv 4)) (pk_bw (pk_ix (fun _ _ => rfl) (pk_varB (pv 3)) (pk_bw (pk_mod (pk_varB (pv 1)) (pk_bw pk_int))))))) (pk_varB (pv 2)))))))
theorem sc_law_sorts : FnScope ["_law_error", "_law_found"] ["_law_error"] (defScope s_law_sorts) := ⟨rfl, rfl, rfl, by decide +kernel, rfl, by decide +kernel, by decide +kernel⟩
theorem ok_law_sorts {f : Addr} {fd : FuncData} (F : Fun K "_law_sorts" "_law_sorts" s_law_sorts f fd) (T : Txt K mg A Z)  : FnE P w K mg base A 1 f fd ["_law_error"] m_law_sorts :=
  fnE F sc_law_sorts rfl fun cdv R outer s H F0 E p y d hr xr hot => by
    have S := sc_law_sorts
    have tk : L2N.Takes (L2H.cxH (L2N.CX P w) P w K mg base ["_law_error", "_law_found"] "_law_sorts" (defScope s_law_sorts) f cdv R outer s H E p) (fxE A p.1 H F0 E).W := L2N.takes_of rfl rfl rfl rfl
    have hu := huH hr
    have hu5 := huH5 hr
    exact (pks_cons (pks_set (fun te h => ps_set (i := 1) S.nd rfl (Or.inl rfl) h) (pk_lst (k := .fz) (pka_cons (pk_isX T.isE_BadPot hot xr (fun _ => rfl) (.own _) T.b_isinstance rfl (pe_glob rfl T.gx_BadPot rfl) (pv 0)) (pka_cons (pk_isX T.isE_TooMany hot xr (fun _ => rfl) (.own _) T.b_isinstance rfl (pe_glob rfl T.gx_TooMany rfl) (pv 0)) (pka_cons (pk_isX T.isE_NoPot hot xr (fun _ => rfl) (.own _) T.b_isinstance rfl (pe_glob rfl T.gx_NoPot rfl) (pv 0)) pka_nil)))))
    (pks_one (pks_ret (pk_addU (pk_varB (pv 1)) (pk_bw (pk_lst (k := .fz) (pka_cons (pk_isX T.isE_BadDay hot xr (fun _ => rfl) (.own _) T.b_isinstance rfl (pe_glob rfl T.gx_BadDay rfl) (pv 0)) (pka_cons (pk_isX T.isE_BadRow hot xr (fun _ => rfl) (.own _) T.b_isinstance rfl (pe_glob rfl T.gx_BadRow rfl) (pv 0)) (pka_cons (pk_isX T.isE_NoState hot xr (fun _ => rfl) (.own _) T.b_isinstance rfl (pe_glob rfl T.gx_NoState rfl) (pv 0)) pka_nil)))))))))
theorem sc_BadRow_init : FnScope ["self", "row"] ["self", "row"] (defScope s_BadRow_init) := ⟨rfl, rfl, rfl, by decide +kernel, rfl, by decide +kernel, by decide +kernel⟩
theorem ok_BadRow_init {f C GE : Addr} {fd : FuncData} {mc : Value} (F : Fun K "__init__" "BadRow.__init__" s_BadRow_init f fd) (hm : mg "GardenError" = some (.ref GE)) (rd : ClX.CRead K GE mc) (hv : PySem.W.findCls K (.ref GE) mc "__init__" = some (.val (.builtin "ValueError.__init__"))) : FnOk P w K mg base (L2N.CX P w) 1 f fd ["self", "row"] (spX K C "row") :=
  fnX (z := "no garden") F sc_BadRow_init fun cdv R outer s H E hr => by
    have S := sc_BadRow_init
    exact pss_cons (ps_expr (pe_ginit hm rd hv (pa_cons (pv 0) (pa_cons pe_str pa_nil)))) (pss_cons (ps_ost (pv 0) (pv 1)) pss_nil)
theorem okH_BadRow_init {f C GE : Addr} {fd : FuncData} {mc : Value} (F : Fun K "__init__" "BadRow.__init__" s_BadRow_init f fd) (hm : mg "GardenError" = some (.ref GE)) (rd : ClX.CRead K GE mc) (hv : PySem.W.findCls K (.ref GE) mc "__init__" = some (.val (.builtin "ValueError.__init__"))) : L2H.FnH P w K mg base (L2N.CX P w) 1 f fd ["self", "row"] (spX K C "row") :=
  fnXH (z := "no garden") F sc_BadRow_init fun cdv R outer s H E p => by
    have S := sc_BadRow_init
    exact pss_cons (ps_expr (pe_ginit hm rd hv (pa_cons (pv 0) (pa_cons pe_str pa_nil)))) (pss_cons (ps_ost (pv 0) (pv 1)) pss_nil)
theorem sc_Garden_size : FnScope ["self", "found", "pot"] ["self"] (defScope s_Garden_size) := ⟨rfl, rfl, rfl, by decide +kernel, rfl, by decide +kernel, by decide +kernel⟩
theorem ok_Garden_size {f : Addr} {fd : FuncData} (F : Fun K "size" "Garden.size" s_Garden_size f fd) (T : Txt K mg A Z)  : FnOk P w K mg base (L2N.CX P w) 1 f fd ["self"] (spD K A 1 m_Garden_size) :=
  fnD F sc_Garden_size fun cdv A' outer s H F0 E hr => by
    have S := sc_Garden_size
    have tk : L2N.Takes (cxOf (L2N.CX P w) P w K mg base ["self", "found", "pot"] "Garden.size" (defScope s_Garden_size) f cdv A' outer s H E) (fxOf A H F0 E).W := L2N.takes_of rfl rfl rfl rfl
    have hp : PassesOwn (model P w) (A'.deeper (envOfC "Garden.size" (defScope s_Garden_size) s.heap.objs.size f cdv)) (envOfC "Garden.size" (defScope s_Garden_size) s.heap.objs.size f cdv) (cxOf (L2N.CX P w) P w K mg base ["self", "found", "pot"] "Garden.size" (defScope s_Garden_size) f cdv A' outer s H E).xe := passes_of rfl
    have hu := hr.units
    have hu5 := hu65 hr
    exact (pks_cons (pks_set (fun te h => ps_set (i := 1) S.nd rfl (Or.inl rfl) h) (pk_fld T.cf (pk_varB (pv 0))))
    (pks_cons (pks_for hp rfl (pid_list (pk_fld T.cf (pk_varB (pv 0)))) (pgd_name (pg_name (i := 2) S.nd rfl (Or.inl rfl)))
      (pks_one (pks_aug op2_mulI nox_I (fun te h => ps_aug (i := 1) S.nd rfl (Or.inl rfl) h iop_mul) (pk_bw (pk_fld T.cf (pk_varB (pv 2)))))))
    (pks_one (pks_ret (pk_var (pv 1))))))
theorem sc_is_whole : FnScope ["number"] ["number"] (defScope s_is_whole) := ⟨rfl, rfl, rfl, by decide +kernel, rfl, by decide +kernel, by decide +kernel⟩
theorem ok_is_whole {f : Addr} {fd : FuncData} (F : Fun K "is_whole" "is_whole" s_is_whole f fd) (T : Txt K mg A Z)  : FnOk P w K mg base (L2N.CX P w) 1 f fd ["number"] (spD K A 1 m_is_whole) :=
  fnD F sc_is_whole fun cdv A' outer s H F0 E hr => by
    have S := sc_is_whole
    have tk : L2N.Takes (cxOf (L2N.CX P w) P w K mg base ["number"] "is_whole" (defScope s_is_whole) f cdv A' outer s H E) (fxOf A H F0 E).W := L2N.takes_of rfl rfl rfl rfl
    have hp : PassesOwn (model P w) (A'.deeper (envOfC "is_whole" (defScope s_is_whole) s.heap.objs.size f cdv)) (envOfC "is_whole" (defScope s_is_whole) s.heap.objs.size f cdv) (cxOf (L2N.CX P w) P w K mg base ["number"] "is_whole" (defScope s_is_whole) f cdv A' outer s H E).xe := passes_of rfl
    have hu := hr.units
    have hu5 := hu65 hr
    exact (pks_one (pks_ret (pk_and2 (pk_bw (pk_is T.cf is_int (.ty "int") T.b_isinstance rfl (pe_bltn rfl T.b_int (by decide +kernel) rfl) (pk_varB (pv 0)))) (pk_one (pk_not (pk_bw (pk_is T.cf is_bool (.ty "bool") T.b_isinstance rfl (pe_bltn rfl T.b_bool (by decide +kernel) rfl) (pk_varB (pv 0)))))))))
theorem sc_within : FnScope ["number", "low", "high"] ["number", "low", "high"] (defScope s_within) := ⟨rfl, rfl, rfl, by decide +kernel, rfl, by decide +kernel, by decide +kernel⟩
theorem ok_within {f : Addr} {fd : FuncData} (F : Fun K "within" "within" s_within f fd) (T : Txt K mg A Z) (c_is_whole : Cal P w K mg base A 1 "is_whole" 1 m_is_whole []) : FnOk P w K mg base (L2N.CX P w) 2 f fd ["number", "low", "high"] (spD K A 3 m_within) :=
  fnD F sc_within fun cdv A' outer s H F0 E hr => by
    have S := sc_within
    have tk : L2N.Takes (cxOf (L2N.CX P w) P w K mg base ["number", "low", "high"] "within" (defScope s_within) f cdv A' outer s H E) (fxOf A H F0 E).W := L2N.takes_of rfl rfl rfl rfl
    have hp : PassesOwn (model P w) (A'.deeper (envOfC "within" (defScope s_within) s.heap.objs.size f cdv)) (envOfC "within" (defScope s_within) s.heap.objs.size f cdv) (cxOf (L2N.CX P w) P w K mg base ["number", "low", "high"] "within" (defScope s_within) f cdv A' outer s H E).xe := passes_of rfl
    have hu := hr.units
    have hu5 := hu65 hr
    exact (pks_one (pks_ret (pk_and2 (pk_bw (pk_f c_is_whole tk (hr.mono (by decide)) (pka_cons (pk_var (pv 0)) pka_nil))) (pk_one (pk_le_le (pk_varB (pv 1)) (pk_varB (pv 0)) (pk_varB (pv 2)))))))
theorem sc_Garden_init : FnScope ["self", "pots", "cans", "week", "closed", "names", "pot"] ["self", "pots", "cans", "week", "closed"] (defScope s_Garden_init) := ⟨rfl, rfl, rfl, by decide +kernel, rfl, by decide +kernel, by decide +kernel⟩
theorem ok_Garden_init {f C : Addr} {fd : FuncData} (F : FunD K "__init__" "Garden.__init__" (defArgs s_Garden_init) (defBody s_Garden_init) (defScope s_Garden_init) [V.int 1, V.int 1, V.int 0] [] f fd) (T : Txt K mg A Z) (hC : C = A.cl .garden) (hc : A.has .garden = true) (clC : Cls K C) (noC : ∀ n, n ∈ Cl.names .garden → NoAttr K C n) (c_is_whole : Cal P w K mg base A 1 "is_whole" 1 m_is_whole []) (c_within : Cal P w K mg base A 2 "within" 3 m_within []) (mt_size : ∀ c m, tb_size c = some m → MtD P w K mg base A 1 c "size" 1 m) : FnOk P w K mg base (L2N.CX P w) 3 f fd ["self", "pots", "cans", "week", "closed"] (spI K A C (Cl.names .garden) 4 mi_Garden) :=
  fnID F sc_Garden_init rfl fun cdv A' outer s H E y eA eC h0 eW hr => by
    subst eA eC
    have S := sc_Garden_init
    have tk : L2N.Takes (cxOf (L2N.CX P w) P w K mg base ["self", "pots", "cans", "week", "closed", "names", "pot"] "Garden.__init__" (defScope s_Garden_init) f cdv A' outer s H E) y.W := by rw [eW]; exact L2N.takes_of rfl rfl rfl rfl
    have hp : PassesOwn (model P w) (A'.deeper (envOfC "Garden.__init__" (defScope s_Garden_init) s.heap.objs.size f cdv)) (envOfC "Garden.__init__" (defScope s_Garden_init) s.heap.objs.size f cdv) (cxOf (L2N.CX P w) P w K mg base ["self", "pots", "cans", "week", "closed", "names", "pot"] "Garden.__init__" (defScope s_Garden_init) f cdv A' outer s H E).xe := passes_of rfl
    have hu := hr.units
    have hu5 := hu65 hr
    exact (pis_cons (pis_S h0 fun B' hB => (pks_if (PW.pt (pkw_or (pkt_not (pt_b (pk_bw (pk_is T.cf is_list (.ty "list") T.b_isinstance rfl (pe_bltn rfl T.b_list (by decide +kernel) rfl) (pk_varB (pv 1)))))) (pkw_or1 (pkt_not (pt_b (pk_bw (pk_all rfl T.b_all rfl (pka_cons (pk_bw (pk_lc (k := .fz) (by decide) (by decide) (pe_lc (own := [("pot", 6)]) rfl S.nd (pid_list (pk_var (pv 1))) (blkOk_by (own := [("pot", 6)]) (N := ["self", "pots", "cans", "week", "closed", "names", "pot"]) (sc := defScope s_Garden_init) (by decide +kernel)) (fun _ _ _ _ _ => (pgd_name (pg_name (i := 6) S.nd rfl (Or.inl rfl)))) (fun _ _ _ _ _ => ptsd_nil) (fun _ _ _ _ _ => (pk_is T.cf T.is_Pot (.own _) T.b_isinstance rfl (pe_glob rfl T.g_Pot rfl) (pk_varB (pv 6))))))) pka_nil))))))))
        (pks_one (pks_raise (y := .badPot) rfl tk T.x_BadPot (fun _ => rfl)))
        pks_nil))
    (pis_cons (pis_S h0 fun B' hB => (pks_if (PW.pt (pkw_or (pkt_not (pt_le_le (pk_bw pk_int) (pk_bw (pk_len T.b_len rfl (pka_cons (pk_varB (pv 1)) pka_nil))) (pk_bw (pk_gl T.g_MOST_POTS (fun _ => .int _))))) (pkw_or (pkt_not (pt_b (pk_bw (pk_f c_within tk (hr.mono (by decide)) (pka_cons (pk_var (pv 2)) (pka_cons pk_int (pka_cons (pk_gl T.g_MOST_POTS (fun _ => .int _)) pka_nil))))))) (pkw_or1 (pkt_not (pt_b (pk_bw (pk_f c_within tk (hr.mono (by decide)) (pka_cons (pk_var (pv 3)) (pka_cons pk_int (pka_cons (pk_gl T.g_LONGEST_WEEK (fun _ => .int _)) pka_nil)))))))))))
        (pks_one (pks_raise (y := .tooMany) rfl tk T.x_TooMany (fun _ => rfl)))
        pks_nil))
    (pis_cons (pis_S h0 fun B' hB => (pks_if (PW.pt (pkw_or (pkt_not (pt_b (pk_bw (pk_f c_is_whole tk (hr.mono (by decide)) (pka_cons (pk_var (pv 4)) pka_nil))))) (pkw_or (pt_lt (pk_varB (pv 4)) (pk_bw pk_int)) (pkw_or1 (pt_ne hu (pk_bw (pk_shr (pk_varB (pv 4)) (pk_varB (pv 3)))) (pk_bw pk_int))))))
        (pks_one (pks_raise (y := .tooMany) rfl tk T.x_TooMany (fun _ => rfl)))
        pks_nil))
    (pis_names (i := 5) (ip := 6) (a := .Dict [] [] default) h0 hp rfl (ps_set (i := 5) S.nd rfl (Or.inl rfl) pe_dnewK) (fun l ks hB => pid_list (pk_var (pv 1))) (pg_name (i := 6) S.nd rfl (Or.inl rfl)) (pis_nbody (i := 5) (ip := 6) (hu1 hr) (fun l ks => pk_fld T.cf (pk_varB (pv 6))) (pv 5) (fun l ks => pk_fld T.cf (pk_varB (pv 6))) (pv 5) (fun l ks => pks_one (pks_raise (y := .badPot) rfl tk T.x_BadPot (fun _ => rfl))) (pe_callB call_lenD rfl T.b_len PySem.boot_len (pa_cons (pv 5) pa_nil)) rfl rfl)
    (pis_cons (pis_sto h0 (fun tv h => ps_fld (pv 0) h rfl) (fun B' hB => (pk_list (k := .fz) T.b_list rfl (pka_cons (pk_varB (pv 1)) pka_nil))) clC (noC "pots" (by decide)))
    (pis_cons (pis_sto h0 (fun tv h => ps_fld (pv 0) h rfl) (fun B' hB => (pk_var (pv 2))) clC (noC "cans" (by decide)))
    (pis_cons (pis_sto h0 (fun tv h => ps_fld (pv 0) h rfl) (fun B' hB => (pk_var (pv 3))) clC (noC "week" (by decide)))
    (pis_cons (pis_sto h0 (fun tv h => ps_fld (pv 0) h rfl) (fun B' hB => (pk_var (pv 4))) clC (noC "closed" (by decide)))
    (pis_cons (pis_sto h0 (fun tv h => ps_fld (pv 0) h rfl) (fun B' hB => (pk_var (pv 5))) clC (noC "order" (by decide)))
    (pis_post (c := .garden) h0 hc hC fun B' F0' => (pks_one (pks_if (pt_gt (pk_bw (pk_meth0 (c0 := .garden) dc_call tk mt_size (hr.mono (by decide)) rfl (pk_var (pv 0)))) (pk_bw (pk_gl T.g_MOST_STATES (fun _ => .int _))))
      (pks_one (pks_raise (y := .tooMany) rfl tk T.x_TooMany (fun _ => rfl)))
      pks_nil))))))))))))
theorem sc_number_in : FnScope ["text"] ["text"] (defScope s_number_in) := ⟨rfl, rfl, rfl, by decide +kernel, rfl, by decide +kernel, by decide +kernel⟩
theorem ok_number_in {f : Addr} {fd : FuncData} (F : Fun K "number_in" "number_in" s_number_in f fd) (T : Txt K mg A Z)  : FnOk P w K mg base (L2N.CX P w) 1 f fd ["text"] (spD K A 1 m_number_in) :=
  fnD F sc_number_in fun cdv A' outer s H F0 E hr => by
    have S := sc_number_in
    have tk : L2N.Takes (cxOf (L2N.CX P w) P w K mg base ["text"] "number_in" (defScope s_number_in) f cdv A' outer s H E) (fxOf A H F0 E).W := L2N.takes_of rfl rfl rfl rfl
    have hp : PassesOwn (model P w) (A'.deeper (envOfC "number_in" (defScope s_number_in) s.heap.objs.size f cdv)) (envOfC "number_in" (defScope s_number_in) s.heap.objs.size f cdv) (cxOf (L2N.CX P w) P w K mg base ["text"] "number_in" (defScope s_number_in) f cdv A' outer s H E).xe := passes_of rfl
    have hu := hr.units
    have hu5 := hu65 hr
    exact (pks_cons (pks_if (PW.pt (pkw_or (pt_eq hu (pk_varB (pv 0)) (pk_bw pk_str)) (pkw_or (pt_gt (pk_bw (pk_len T.b_len rfl (pka_cons (pk_varB (pv 0)) pka_nil))) (pk_bw pk_int)) (pkw_or (pt_ne hu (pk_bw (pk_strip (pk_varB (pv 0)) (pka_cons (pk_bw (pk_gl T.g_FIGURES (fun _ => .str _))) pka_nil))) (pk_bw pk_str)) (pkw_or1 (PW.pt (pkw_and (pt_eq hu (pk_bw (pk_ix (fun _ _ => rfl) (pk_varB (pv 0)) (pk_bw pk_int))) (pk_bw pk_str)) (pkw_and1 (pt_ne hu (pk_varB (pv 0)) (pk_bw pk_str))))))))))
      (pks_one (pks_ret pk_non))
      pks_nil)
    (pks_one (pks_ret (pk_int1 T.b_int rfl (pka_cons (pk_varB (pv 0)) pka_nil)))))
theorem sc_head_in : FnScope ["words", "numbers", "closed", "last", "day", "word"] ["words"] (defScope s_head_in) := ⟨rfl, rfl, rfl, by decide +kernel, rfl, by decide +kernel, by decide +kernel⟩
theorem ok_head_in {f : Addr} {fd : FuncData} (F : Fun K "head_in" "head_in" s_head_in f fd) (T : Txt K mg A Z) (c_number_in : Cal P w K mg base A 1 "number_in" 1 m_number_in []) : FnOk P w K mg base (L2N.CX P w) 2 f fd ["words"] (spD K A 1 m_head_in) :=
  fnD F sc_head_in fun cdv A' outer s H F0 E hr => by
    have S := sc_head_in
    have tk : L2N.Takes (cxOf (L2N.CX P w) P w K mg base ["words", "numbers", "closed", "last", "day", "word"] "head_in" (defScope s_head_in) f cdv A' outer s H E) (fxOf A H F0 E).W := L2N.takes_of rfl rfl rfl rfl
    have hp : PassesOwn (model P w) (A'.deeper (envOfC "head_in" (defScope s_head_in) s.heap.objs.size f cdv)) (envOfC "head_in" (defScope s_head_in) s.heap.objs.size f cdv) (cxOf (L2N.CX P w) P w K mg base ["words", "numbers", "closed", "last", "day", "word"] "head_in" (defScope s_head_in) f cdv A' outer s H E).xe := passes_of rfl
    have hu := hr.units
    have hu5 := hu65 hr
    exact (pks_cons (pks_setLc (i := 1) (by decide) (ps_setLc (i := 1) (own := [("word", 5)]) rfl S.nd rfl rfl (sw_true rfl rfl rfl (by decide +kernel)) (pid_list (pk_slU (pk_varB (pv 0)) (pkp_some (pk_bw pk_int)) pkp_none)) (blkOk_by (own := [("word", 5)]) (N := ["words", "numbers", "closed", "last", "day", "word"]) (sc := defScope s_head_in) (by decide +kernel)) (fun _ _ _ _ _ => (pgd_name (pg_name (i := 5) S.nd rfl (Or.inl rfl)))) (fun _ _ _ _ _ => ptsd_nil) (fun _ _ _ _ _ => (pk_f c_number_in takes0 (hr.mono (by decide)) (pka_cons (pk_var (pv 5)) pka_nil)))))
    (pks_cons (pks_if (PW.pt (pkw_or (pt_ne hu (pk_bw (pk_slU (pk_varB (pv 0)) pkp_none (pkp_some (pk_bw pk_int)))) (pk_bw (pk_lst (k := .fz) (pka_cons pk_str pka_nil)))) (pkw_or (pt_in hu5 rfl (pk_bw pk_non) (pk_varB (pv 1))) (pkw_or1 (pt_lt (pk_bw (pk_len T.b_len rfl (pka_cons (pk_varB (pv 1)) pka_nil))) (pk_bw pk_int))))))
      (pks_one (pks_ret pk_non))
      pks_nil)
    (pks_cons (pks_set (fun te h => ps_set (i := 2) S.nd rfl (Or.inl rfl) h) pk_int)
    (pks_cons (pks_set (fun te h => ps_set (i := 3) S.nd rfl (Or.inl rfl) h) (pk_neg (pk_bw pk_int)))
    (pks_cons (pks_for hp rfl (pid_list (pk_slU (pk_varB (pv 1)) (pkp_some (pk_bw pk_int)) pkp_none)) (pgd_name (pg_name (i := 4) S.nd rfl (Or.inl rfl)))
      (pks_cons (pks_if (PW.pt (pkw_or (pt_le (pk_varB (pv 4)) (pk_varB (pv 3))) (pkw_or1 (pt_ge (pk_varB (pv 4)) (pk_bw (pk_ix (fun _ _ => rfl) (pk_varB (pv 1)) (pk_bw pk_int)))))))
        (pks_one (pks_ret pk_non))
        pks_nil)
      (pks_cons (pks_set (fun te h => ps_set (i := 3) S.nd rfl (Or.inl rfl) h) (pk_var (pv 4)))
      (pks_one (pks_set (fun te h => ps_set (i := 2) S.nd rfl (Or.inl rfl) h) (pk_or (pk_varB (pv 2)) (pk_bw (pk_shl (pk_bw pk_int) (pk_varB (pv 4))))))))))
    (pks_one (pks_ret (pk_tup (pka_cons (pk_ix (fun _ _ => rfl) (pk_varB (pv 1)) (pk_bw pk_int)) (pka_cons (pk_ix (fun _ _ => rfl) (pk_varB (pv 1)) (pk_bw pk_int)) (pka_cons (pk_var (pv 2)) pka_nil)))))))))))
theorem sc_is_name : FnScope ["name"] ["name"] (defScope s_is_name) := ⟨rfl, rfl, rfl, by decide +kernel, rfl, by decide +kernel, by decide +kernel⟩
theorem ok_is_name {f : Addr} {fd : FuncData} (F : Fun K "is_name" "is_name" s_is_name f fd) (T : Txt K mg A Z)  : FnOk P w K mg base (L2N.CX P w) 1 f fd ["name"] (spD K A 1 m_is_name) :=
  fnD F sc_is_name fun cdv A' outer s H F0 E hr => by
    have S := sc_is_name
    have tk : L2N.Takes (cxOf (L2N.CX P w) P w K mg base ["name"] "is_name" (defScope s_is_name) f cdv A' outer s H E) (fxOf A H F0 E).W := L2N.takes_of rfl rfl rfl rfl
    have hp : PassesOwn (model P w) (A'.deeper (envOfC "is_name" (defScope s_is_name) s.heap.objs.size f cdv)) (envOfC "is_name" (defScope s_is_name) s.heap.objs.size f cdv) (cxOf (L2N.CX P w) P w K mg base ["name"] "is_name" (defScope s_is_name) f cdv A' outer s H E).xe := passes_of rfl
    have hu := hr.units
    have hu5 := hu65 hr
    exact (pks_one (pks_ret (pk_and2 (pk_bw (pk_is T.cf is_str (.ty "str") T.b_isinstance rfl (pe_bltn rfl T.b_str (by decide +kernel) rfl) (pk_varB (pv 0)))) (pk_and2 (pk_bw (pk_le_le (pk_bw pk_int) (pk_bw (pk_len T.b_len rfl (pka_cons (pk_varB (pv 0)) pka_nil))) (pk_bw pk_int))) (pk_one (pk_eq hu (pk_bw (pk_strip (pk_varB (pv 0)) (pka_cons (pk_bw (pk_gl T.g_LETTERS (fun _ => .str _))) pka_nil))) (pk_bw pk_str)))))))
theorem sc_Pot_init : FnScope ["self", "name", "gap"] ["self", "name", "gap"] (defScope s_Pot_init) := ⟨rfl, rfl, rfl, by decide +kernel, rfl, by decide +kernel, by decide +kernel⟩
theorem ok_Pot_init {f C : Addr} {fd : FuncData} (F : Fun K "__init__" "Pot.__init__" s_Pot_init f fd) (T : Txt K mg A Z) (clC : Cls K C) (noC : ∀ n, n ∈ Cl.names .pot → NoAttr K C n) (c_is_name : Cal P w K mg base A 1 "is_name" 1 m_is_name []) (c_within : Cal P w K mg base A 2 "within" 3 m_within []) : FnOk P w K mg base (L2N.CX P w) 3 f fd ["self", "name", "gap"] (spI K A C (Cl.names .pot) 2 mi_Pot) :=
  fnI F sc_Pot_init rfl fun cdv A' outer s H E y eA eC h0 eW hr => by
    subst eA eC
    have S := sc_Pot_init
    have tk : L2N.Takes (cxOf (L2N.CX P w) P w K mg base ["self", "name", "gap"] "Pot.__init__" (defScope s_Pot_init) f cdv A' outer s H E) y.W := by rw [eW]; exact L2N.takes_of rfl rfl rfl rfl
    have hp : PassesOwn (model P w) (A'.deeper (envOfC "Pot.__init__" (defScope s_Pot_init) s.heap.objs.size f cdv)) (envOfC "Pot.__init__" (defScope s_Pot_init) s.heap.objs.size f cdv) (cxOf (L2N.CX P w) P w K mg base ["self", "name", "gap"] "Pot.__init__" (defScope s_Pot_init) f cdv A' outer s H E).xe := passes_of rfl
    have hu := hr.units
    have hu5 := hu65 hr
    exact (pis_cons (pis_S h0 fun B' hB => (pks_if (PW.pt (pkw_or (pkt_not (pt_b (pk_bw (pk_f c_is_name tk (hr.mono (by decide)) (pka_cons (pk_var (pv 1)) pka_nil))))) (pkw_or1 (pkt_not (pt_b (pk_bw (pk_f c_within tk (hr.mono (by decide)) (pka_cons (pk_var (pv 2)) (pka_cons pk_int (pka_cons (pk_gl T.g_LONGEST (fun _ => .int _)) pka_nil))))))))))
        (pks_one (pks_raise (y := .badPot) rfl tk T.x_BadPot (fun _ => rfl)))
        pks_nil))
    (pis_cons (pis_sto h0 (fun tv h => ps_fld (pv 0) h rfl) (fun B' hB => (pk_var (pv 1))) clC (noC "name" (by decide)))
    (pis_cons (pis_sto h0 (fun tv h => ps_fld (pv 0) h rfl) (fun B' hB => (pk_var (pv 2))) clC (noC "gap" (by decide)))
    pis_nil)))
theorem sc_Cactus_init : FnScope ["self", "name", "gap", "rest"] ["self", "name", "gap", "rest"] (defScope s_Cactus_init) := ⟨rfl, rfl, rfl, by decide +kernel, rfl, by decide +kernel, by decide +kernel⟩
theorem ok_Cactus_init {f C : Addr} {fd : FuncData} (F : Fun K "__init__" "Cactus.__init__" s_Cactus_init f fd) (T : Txt K mg A Z) (clC : Cls K C) (noC : ∀ n, n ∈ Cl.names .cactus → NoAttr K C n) (su_Pot : Sup P w K mg base A 3 "Pot" C .pot 2 mi_Pot) (c_within : Cal P w K mg base A 2 "within" 3 m_within []) : FnOk P w K mg base (L2N.CX P w) 5 f fd ["self", "name", "gap", "rest"] (spI K A C (Cl.names .cactus) 3 mi_Cactus) :=
  fnI F sc_Cactus_init rfl fun cdv A' outer s H E y eA eC h0 eW hr => by
    subst eA eC
    have S := sc_Cactus_init
    have tk : L2N.Takes (cxOf (L2N.CX P w) P w K mg base ["self", "name", "gap", "rest"] "Cactus.__init__" (defScope s_Cactus_init) f cdv A' outer s H E) y.W := by rw [eW]; exact L2N.takes_of rfl rfl rfl rfl
    have hp : PassesOwn (model P w) (A'.deeper (envOfC "Cactus.__init__" (defScope s_Cactus_init) s.heap.objs.size f cdv)) (envOfC "Cactus.__init__" (defScope s_Cactus_init) s.heap.objs.size f cdv) (cxOf (L2N.CX P w) P w K mg base ["self", "name", "gap", "rest"] "Cactus.__init__" (defScope s_Cactus_init) f cdv A' outer s H E).xe := passes_of rfl
    have hu := hr.units
    have hu5 := hu65 hr
    exact (pis_cons (pis_sup h0 su_Pot tk (hr.mono (by decide)) (pv 0) (fun B' hB => (pka_cons (pk_var (pv 1)) (pka_cons (pk_var (pv 2)) pka_nil))))
    (pis_cons (pis_S h0 fun B' hB => (pks_if (pkt_not (pt_b (pk_bw (pk_f c_within tk (hr.mono (by decide)) (pka_cons (pk_var (pv 3)) (pka_cons pk_int (pka_cons (pk_sub (pk_varB (pv 2)) (pk_bw pk_int)) pka_nil)))))))
        (pks_one (pks_raise (y := .badPot) rfl tk T.x_BadPot (fun _ => rfl)))
        pks_nil))
    (pis_cons (pis_sto h0 (fun tv h => ps_fld (pv 0) h rfl) (fun B' hB => (pk_var (pv 3))) clC (noC "rest" (by decide)))
    pis_nil)))
theorem sc_pot_in : FnScope ["words", "numbers", "word"] ["words"] (defScope s_pot_in) := ⟨rfl, rfl, rfl, by decide +kernel, rfl, by decide +kernel, by decide +kernel⟩
theorem ok_pot_in {f : Addr} {fd : FuncData} (F : Fun K "pot_in" "pot_in" s_pot_in f fd) (T : Txt K mg A Z) (c_number_in : Cal P w K mg base A 1 "number_in" 1 m_number_in []) (mk_Cactus : Mak P w K mg base A 6 "Cactus" 3 .cactus mi_Cactus []) (mk_Pot : Mak P w K mg base A 4 "Pot" 2 .pot mi_Pot []) : FnOk P w K mg base (L2N.CX P w) 7 f fd ["words"] (spD K A 1 m_pot_in) :=
  fnD F sc_pot_in fun cdv A' outer s H F0 E hr => by
    have S := sc_pot_in
    have tk : L2N.Takes (cxOf (L2N.CX P w) P w K mg base ["words", "numbers", "word"] "pot_in" (defScope s_pot_in) f cdv A' outer s H E) (fxOf A H F0 E).W := L2N.takes_of rfl rfl rfl rfl
    have hp : PassesOwn (model P w) (A'.deeper (envOfC "pot_in" (defScope s_pot_in) s.heap.objs.size f cdv)) (envOfC "pot_in" (defScope s_pot_in) s.heap.objs.size f cdv) (cxOf (L2N.CX P w) P w K mg base ["words", "numbers", "word"] "pot_in" (defScope s_pot_in) f cdv A' outer s H E).xe := passes_of rfl
    have hu := hr.units
    have hu5 := hu65 hr
    exact (pks_cons (pks_setLc (i := 1) (by decide) (ps_setLc (i := 1) (own := [("word", 2)]) rfl S.nd rfl rfl (sw_true rfl rfl rfl (by decide +kernel)) (pid_list (pk_slU (pk_varB (pv 0)) (pkp_some (pk_bw pk_int)) pkp_none)) (blkOk_by (own := [("word", 2)]) (N := ["words", "numbers", "word"]) (sc := defScope s_pot_in) (by decide +kernel)) (fun _ _ _ _ _ => (pgd_name (pg_name (i := 2) S.nd rfl (Or.inl rfl)))) (fun _ _ _ _ _ => ptsd_nil) (fun _ _ _ _ _ => (pk_f c_number_in takes0 (hr.mono (by decide)) (pka_cons (pk_var (pv 2)) pka_nil)))))
    (pks_cons (pks_if (pt_in hu5 rfl (pk_bw pk_non) (pk_varB (pv 1)))
      (pks_one (pks_ret pk_non))
      pks_nil)
    (pks_cons (pks_tryO (ct := ct_BadPot) rfl rfl ⟨rfl, rfl, Or.inl T.gx_BadPot⟩ T.ct_BadPot (fun W pn xe tk hp =>
      (pks_cons (pks_if (PW.pt (pkw_and (pt_eq hu (pk_bw (pk_ix (fun _ _ => rfl) (pk_varB (pv 0)) (pk_bw pk_int))) (pk_bw pk_str)) (pkw_and1 (pt_eq hu (pk_bw (pk_len T.b_len rfl (pka_cons (pk_varB (pv 1)) pka_nil))) (pk_bw pk_int)))))
        (pks_one (pks_ret (pk_mk mk_Pot tk (hr.mono (by decide)) (pka_cons (pk_ix (fun _ _ => rfl) (pk_varB (pv 0)) (pk_bw pk_int)) (pka_cons (pk_ix (fun _ _ => rfl) (pk_varB (pv 1)) (pk_bw pk_int)) pka_nil)))))
        pks_nil)
      (pks_one (pks_if (PW.pt (pkw_and (pt_eq hu (pk_bw (pk_ix (fun _ _ => rfl) (pk_varB (pv 0)) (pk_bw pk_int))) (pk_bw pk_str)) (pkw_and1 (pt_eq hu (pk_bw (pk_len T.b_len rfl (pka_cons (pk_varB (pv 1)) pka_nil))) (pk_bw pk_int)))))
        (pks_one (pks_ret (pk_mk mk_Cactus tk (hr.mono (by decide)) (pka_cons (pk_ix (fun _ _ => rfl) (pk_varB (pv 0)) (pk_bw pk_int)) (pka_cons (pk_ix (fun _ _ => rfl) (pk_varB (pv 1)) (pk_bw pk_int)) (pka_cons (pk_ix (fun _ _ => rfl) (pk_varB (pv 1)) (pk_bw pk_int)) pka_nil))))))
        pks_nil)))) (fun a pn =>
      (pks_one (pks_ret pk_non))))
    (pks_one (pks_ret pk_non)))))
theorem sc_words_of : FnScope ["row", "word"] ["row"] (defScope s_words_of) := ⟨rfl, rfl, rfl, by decide +kernel, rfl, by decide +kernel, by decide +kernel⟩
theorem ok_words_of {f : Addr} {fd : FuncData} (F : Fun K "words_of" "words_of" s_words_of f fd) (T : Txt K mg A Z)  : FnOk P w K mg base (L2N.CX P w) 1 f fd ["row"] (spD K A 1 m_words_of) :=
  fnD F sc_words_of fun cdv A' outer s H F0 E hr => by
    have S := sc_words_of
    have tk : L2N.Takes (cxOf (L2N.CX P w) P w K mg base ["row", "word"] "words_of" (defScope s_words_of) f cdv A' outer s H E) (fxOf A H F0 E).W := L2N.takes_of rfl rfl rfl rfl
    have hp : PassesOwn (model P w) (A'.deeper (envOfC "words_of" (defScope s_words_of) s.heap.objs.size f cdv)) (envOfC "words_of" (defScope s_words_of) s.heap.objs.size f cdv) (cxOf (L2N.CX P w) P w K mg base ["row", "word"] "words_of" (defScope s_words_of) f cdv A' outer s H E).xe := passes_of rfl
    have hu := hr.units
    have hu5 := hu65 hr
    exact (pks_one (pks_ret (pk_lc (k := .fz) (by decide) (by decide) (pe_lc (own := [("word", 1)]) rfl S.nd (pid_list (pk_split1 (pk_varB (pv 0)) (pka_cons (pk_bw pk_str) pka_nil))) (blkOk_by (own := [("word", 1)]) (N := ["row", "word"]) (sc := defScope s_words_of) (by decide +kernel)) (fun _ _ _ _ _ => (pgd_name (pg_name (i := 1) S.nd rfl (Or.inl rfl)))) (fun _ _ _ _ _ => (ptsd_one (pt_ne hu (pk_varB (pv 1)) (pk_bw pk_str)))) (fun _ _ _ _ _ => (pk_var (pv 1)))))))
theorem sc_read : FnScope ["text", "rows", "head", "pots", "k", "words", "pot", "garden", "one"] ["text"] (defScope s_read) := ⟨rfl, rfl, rfl, by decide +kernel, rfl, by decide +kernel, by decide +kernel⟩
theorem ok_read {f : Addr} {fd : FuncData} (F : Fun K "read" "read" s_read f fd) (T : Txt K mg A Z) (c_head_in : Cal P w K mg base A 2 "head_in" 1 m_head_in []) (c_pot_in : Cal P w K mg base A 7 "pot_in" 1 m_pot_in []) (c_words_of : Cal P w K mg base A 1 "words_of" 1 m_words_of []) (mk_Garden : Mak P w K mg base A 4 "Garden" 4 .garden mi_Garden []) (xf_BadRow : XclF P w K mg base A 2 "BadRow" .badRow "row") (xh_BadRow : XclH P w K mg base A 2 "BadRow" .badRow "row") : FnOk P w K mg base (L2.CX P w) 8 f fd ["text"] (spD K A 1 m_read) :=
  fnDZ F sc_read fun cdv A' outer s H F0 E hr => by
    have S := sc_read
    have tkZ : L2.Takes (cxOf (L2.CX P w) P w K mg base ["text", "rows", "head", "pots", "k", "words", "pot", "garden", "one"] "read" (defScope s_read) f cdv A' outer s H E) (fxOf A H F0 E).W := L2.takes_of rfl rfl rfl rfl
    have tk := nTakes tkZ
    have hp : PassesOwn (model P w) (A'.deeper (envOfC "read" (defScope s_read) s.heap.objs.size f cdv)) (envOfC "read" (defScope s_read) s.heap.objs.size f cdv) (cxOf (L2.CX P w) P w K mg base ["text", "rows", "head", "pots", "k", "words", "pot", "garden", "one"] "read" (defScope s_read) f cdv A' outer s H E).xe := passes_of rfl
    have hu := hr.units
    have hu5 := hu65 hr
    exact (pks_cons (pks_set (fun te h => ps_set (i := 1) S.nd rfl (Or.inl rfl) h) (pk_split1 (pk_varB (pv 0)) (pka_cons (pk_bw pk_str) pka_nil)))
    (pks_cons (pks_set (fun te h => ps_set (i := 2) S.nd rfl (Or.inl rfl) h) pk_non)
    (pks_cons (pks_setO (fun te h => ps_set (i := 3) S.nd rfl (Or.inl rfl) h) (pk_lst (k := .ow) pka_nil))
    (pks_cons (pks_for hp rfl (pid_range1 T.b_range rfl (pka_cons (pk_bw (pk_len T.b_len rfl (pka_cons (pk_varB (pv 1)) pka_nil))) pka_nil)) (pgd_name (pg_name (i := 4) S.nd rfl (Or.inl rfl)))
      (pks_cons (pks_set (fun te h => ps_set (i := 5) S.nd rfl (Or.inl rfl) h) (pk_f c_words_of tk (hr.mono (by decide)) (pka_cons (pk_ix (fun _ _ => rfl) (pk_varB (pv 1)) (pk_varB (pv 4))) pka_nil)))
      (pks_one (pks_if (PW.pt (pkw_and (pt_ne hu (pk_varB (pv 5)) (pk_bw (pk_lst (k := .fz) pka_nil))) (pkw_and1 (pkt_not (pt_b (pk_bw (pk_starts (pk_bw (pk_ix (fun _ _ => rfl) (pk_varB (pv 5)) (pk_bw pk_int))) (pka_cons (pk_bw pk_str) pka_nil))))))))
        (pks_one (pks_if (pt_isN (pk_varB (pv 2)) (pk_bw pk_non))
          (pks_cons (pks_set (fun te h => ps_set (i := 2) S.nd rfl (Or.inl rfl) h) (pk_f c_head_in tk (hr.mono (by decide)) (pka_cons (pk_var (pv 5)) pka_nil)))
          (pks_one (pks_if (pt_isN (pk_varB (pv 2)) (pk_bw pk_non))
            (pks_one (pks_raiseF (mk := .badRow) (fun _ => rfl) (fun _ _ _ => Iff.rfl) rfl tk xf_BadRow (hr.mono (by decide)) (pk_addU (pk_varB (pv 4)) (pk_bw pk_int))))
            pks_nil)))
          (pks_cons (pks_set (fun te h => ps_set (i := 6) S.nd rfl (Or.inl rfl) h) (pk_f c_pot_in tk (hr.mono (by decide)) (pka_cons (pk_var (pv 5)) pka_nil)))
          (pks_cons (pks_if (PW.pt (pkw_or (pt_isN (pk_varB (pv 6)) (pk_bw pk_non)) (pkw_or1 (pt_lend (i := 3) (pt_in hu5 rfl (pk_bw (pk_fld T.cf (pk_varB (pv 6)))) (pk_bw (pk_lc (k := .fz) (by decide) (by decide) (pe_lc (own := [("one", 8)]) rfl S.nd (pid_list (pk_var (pv 3))) (blkOk_by (own := [("one", 8)]) (N := ["text", "rows", "head", "pots", "k", "words", "pot", "garden", "one"]) (sc := defScope s_read) (by decide +kernel)) (fun _ _ _ _ _ => (pgd_name (pg_name (i := 8) S.nd rfl (Or.inl rfl)))) (fun _ _ _ _ _ => ptsd_nil) (fun _ _ _ _ _ => (pk_fld T.cf (pk_varB (pv 8))))))))))))
            (pks_one (pks_raiseF (mk := .badRow) (fun _ => rfl) (fun _ _ _ => Iff.rfl) rfl tk xf_BadRow (hr.mono (by decide)) (pk_addU (pk_varB (pv 4)) (pk_bw pk_int))))
            pks_nil)
          (pks_one (pks_app (fun te ta h ha => ps_expr (pe_bm PySem.F.plainAttrs_list PySem.F.slot_list_append PySem.F.type_list_append mt_append h ha)) (pv 3) (pk_var (pv 6))))))))
        pks_nil))))
    (pks_cons (pks_if (pt_isN (pk_varB (pv 2)) (pk_bw pk_non))
      (pks_one (pks_raiseF (mk := .badRow) (fun _ => rfl) (fun _ _ _ => Iff.rfl) rfl tk xf_BadRow (hr.mono (by decide)) (pk_addU (pk_bw (pk_len T.b_len rfl (pka_cons (pk_varB (pv 1)) pka_nil))) (pk_bw pk_int))))
      pks_nil)
    (pks_one (pks_tryR (ct := ct_TooMany) rfl rfl ⟨rfl, rfl, Or.inl T.gx_TooMany⟩ (fun hd => L2H.passesAt_of rfl hd) tkZ T.ct_TooMany (fun W pn xe tk hp =>
      (pks_one (pks_frz (i := 3) (pks_set (fun te h => ps_set (i := 7) S.nd rfl (Or.inl rfl) h) (pk_mk mk_Garden tk (hr.mono (by decide)) (pka_cons (pk_var (pv 3)) (pka_cons (pk_ix (fun _ _ => rfl) (pk_varB (pv 2)) (pk_bw pk_int)) (pka_cons (pk_ix (fun _ _ => rfl) (pk_varB (pv 2)) (pk_bw pk_int)) (pka_cons (pk_ix (fun _ _ => rfl) (pk_varB (pv 2)) (pk_bw pk_int)) pka_nil))))))))) (fun a oe pn tkS hotS =>
      (pks_one (pks_raiseFH (mk := .badRow) (fun _ => rfl) (fun _ _ _ => Iff.rfl) hotS tkS xh_BadRow (roomX (hr.mono (by decide))) (pk_addU (pk_bw (pk_len T.b_len rfl (pka_cons (pk_varB (pv 1)) pka_nil))) (pk_bw pk_int)))))
      (pks_one (pks_ret (pk_var (pv 7)))))))))))
theorem sc_law_refused : FnScope ["_law_text", "_law_error"] ["_law_text"] (defScope s_law_refused) := ⟨rfl, rfl, rfl, by decide +kernel, rfl, by decide +kernel, by decide +kernel⟩
theorem ok_law_refused {f : Addr} {fd : FuncData} (F : Fun K "_law_refused" "_law_refused" s_law_refused f fd) (T : Txt K mg A Z) (ce_law_sorts : CalE P w K mg base A 1 "_law_sorts" m_law_sorts) (cz_read : CalZ P w K mg base A 8 "read" 1 m_read) : FnOk P w K mg base (L2N.CX P w) 9 f fd ["_law_text"] (spD K A 1 m_law_refused) :=
  fnD F sc_law_refused fun cdv A' outer s H F0 E hr => by
    have S := sc_law_refused
    have tk : L2N.Takes (cxOf (L2N.CX P w) P w K mg base ["_law_text", "_law_error"] "_law_refused" (defScope s_law_refused) f cdv A' outer s H E) (fxOf A H F0 E).W := L2N.takes_of rfl rfl rfl rfl
    have hp : PassesOwn (model P w) (A'.deeper (envOfC "_law_refused" (defScope s_law_refused) s.heap.objs.size f cdv)) (envOfC "_law_refused" (defScope s_law_refused) s.heap.objs.size f cdv) (cxOf (L2N.CX P w) P w K mg base ["_law_text", "_law_error"] "_law_refused" (defScope s_law_refused) f cdv A' outer s H E).xe := passes_of rfl
    have hu := hr.units
    have hu5 := hu65 hr
    exact (pks_cons (pks_tryAsZ (i := 1) (ct := ct_GardenError) rfl rfl S.nd rfl rfl ⟨rfl, rfl, Or.inl T.gx_GardenError⟩ T.ct_GardenError (fun W pn xe tkZ hp =>
      (pks_one (pks_drop (fun te h => ps_expr h) (pk_fZ cz_read tkZ (hr.mono (by decide)) (pka_cons (pk_var (pv 0)) pka_nil))))) (fun a y d B' F' pn hot xr =>
      (pks_cons (pks_if (PW.pt (pkw_or (pt_ne hu (pk_bw (pk_callE ce_law_sorts hot (fun _ => rfl) xr takesF (roomS (hr.mono (by decide))) (pv 1))) (pk_bw (pk_addU (pk_bw (pk_mulU (pk_bw (pk_lst (k := .fz) (pka_cons pk_bl pka_nil))) (pk_bw pk_int))) (pk_bw (pk_lst (k := .fz) (pka_cons pk_bl (pka_cons pk_bl pka_nil))))))) (pkw_or1 (pkt_not (pt_b (pk_bw (pk_isX T.isE_ValueError hot xr (fun _ => rfl) (.ty "ValueError") T.b_isinstance rfl (pe_bltn rfl T.b_ValueError (by decide +kernel) rfl) (pv 1))))))))
        (pks_one (pks_ret (pk_neg (pk_bw pk_int))))
        pks_nil)
      (pks_one (pks_ret (pk_row T.xd_BadRow hot xr (fun _ => rfl) (pv 1)))))))
    (pks_one (pks_ret pk_int)))
theorem sc_law_rows : FnScope ["_law_script", "_law_cell", "_law_rows_here", "_law_k", "_law_more"] ["_law_script"] (defScope s_law_rows) := ⟨rfl, rfl, rfl, by decide +kernel, rfl, by decide +kernel, by decide +kernel⟩
theorem ok_law_rows {f : Addr} {fd : FuncData} (F : Fun K "_law_rows" "_law_rows" s_law_rows f fd) (T : Txt K mg A Z) (c_law_cell_at : Cal P w K mg base A 1 "_law_cell_at" 2 m_law_cell_at []) (c_law_draw : Cal P w K mg base A 1 "_law_draw" 3 m_law_draw []) : FnOk P w K mg base (L2N.CX P w) 2 f fd ["_law_script"] (spD K A 1 m_law_rows) :=
  fnD F sc_law_rows fun cdv A' outer s H F0 E hr => by
    have S := sc_law_rows
    have tk : L2N.Takes (cxOf (L2N.CX P w) P w K mg base ["_law_script", "_law_cell", "_law_rows_here", "_law_k", "_law_more"] "_law_rows" (defScope s_law_rows) f cdv A' outer s H E) (fxOf A H F0 E).W := L2N.takes_of rfl rfl rfl rfl
    have hp : PassesOwn (model P w) (A'.deeper (envOfC "_law_rows" (defScope s_law_rows) s.heap.objs.size f cdv)) (envOfC "_law_rows" (defScope s_law_rows) s.heap.objs.size f cdv) (cxOf (L2N.CX P w) P w K mg base ["_law_script", "_law_cell", "_law_rows_here", "_law_k", "_law_more"] "_law_rows" (defScope s_law_rows) f cdv A' outer s H E).xe := passes_of rfl
    have hu := hr.units
    have hu5 := hu65 hr
    exact (pks_cons (pks_set (fun te h => ps_set (i := 1) S.nd rfl (Or.inl rfl) h) (pk_f c_law_cell_at tk (hr.mono (by decide)) (pka_cons (pk_var (pv 0)) (pka_cons pk_int pka_nil))))
    (pks_cons (pks_setO (fun te h => ps_set (i := 2) S.nd rfl (Or.inl rfl) h) (pk_lst (k := .ow) (pka_cons (pk_join1 (pk_bw pk_str) (pka_cons (pk_bw (pk_lst (k := .fz) (pka_cons pk_str (pka_cons (pk_str1 T.b_str rfl (pka_cons (pk_bw (pk_mod (pk_varB (pv 1)) (pk_bw pk_int))) pka_nil)) (pka_cons (pk_str1 T.b_str rfl (pka_cons (pk_bw (pk_addU (pk_bw pk_int) (pk_bw (pk_mod (pk_bw (pk_div (pk_varB (pv 1)) (pk_bw pk_int))) (pk_bw pk_int))))) pka_nil)) pka_nil))))) pka_nil)) pka_nil)))
    (pks_cons (pks_app (fun te ta h ha => ps_expr (pe_bm PySem.F.plainAttrs_list PySem.F.slot_list_append PySem.F.type_list_append mt_append h ha)) (pv 2) (pk_addU (pk_bw pk_str) (pk_bw (pk_str1 T.b_str rfl (pka_cons (pk_bw (pk_addU (pk_bw pk_int) (pk_bw (pk_mod (pk_bw (pk_div (pk_varB (pv 1)) (pk_bw pk_int))) (pk_bw pk_int))))) pka_nil)))))
    (pks_cons (pks_for hp rfl (pid_range1 T.b_range rfl (pka_cons (pk_bw (pk_mod (pk_bw (pk_div (pk_varB (pv 1)) (pk_bw pk_int))) (pk_bw pk_int))) pka_nil)) (pgd_name (pg_name (i := 3) S.nd rfl (Or.inl rfl)))
      (pks_cons (pks_set (fun te h => ps_set (i := 4) S.nd rfl (Or.inl rfl) h) (pk_ix (fun _ _ => rfl) (pk_bw (pk_tup (pka_cons pk_str (pka_cons pk_str (pka_cons pk_str (pka_cons pk_str pka_nil)))))) (pk_bw (pk_f c_law_draw tk (hr.mono (by decide)) (pka_cons (pk_var (pv 1)) (pka_cons (pk_var (pv 3)) (pka_cons pk_int pka_nil)))))))
      (pks_cons (pks_app (fun te ta h ha => ps_expr (pe_bm PySem.F.plainAttrs_list PySem.F.slot_list_append PySem.F.type_list_append mt_append h ha)) (pv 2) (pk_var (pv 4)))
      (pks_one (pks_app (fun te ta h ha => ps_expr (pe_bm PySem.F.plainAttrs_list PySem.F.slot_list_append PySem.F.type_list_append mt_append h ha)) (pv 2) (pk_join1 (pk_bw pk_str) (pka_cons (pk_bw (pk_lst (k := .fz) (pka_cons pk_str (pka_cons (pk_addU (pk_bw pk_str) (pk_bw (pk_ix (fun _ _ => rfl) (pk_bw pk_str) (pk_varB (pv 3))))) (pka_cons pk_str (pka_cons (pk_str1 T.b_str rfl (pka_cons (pk_bw (pk_f c_law_draw tk (hr.mono (by decide)) (pka_cons (pk_var (pv 1)) (pka_cons (pk_addU (pk_varB (pv 3)) (pk_bw pk_int)) (pka_cons pk_int pka_nil))))) pka_nil)) pka_nil)))))) pka_nil)))))))
    (pks_one (pks_retV (pv 2)))))))
theorem sc_law_whole : FnScope ["_law_script", "_law_many", "_law_wide", "_law_some", "_law_rows_here", "_law_name"] ["_law_script"] (defScope s_law_whole) := ⟨rfl, rfl, rfl, by decide +kernel, rfl, by decide +kernel, by decide +kernel⟩
theorem ok_law_whole {f : Addr} {fd : FuncData} (F : Fun K "_law_whole" "_law_whole" s_law_whole f fd) (T : Txt K mg A Z) (c_law_cell_at : Cal P w K mg base A 1 "_law_cell_at" 2 m_law_cell_at []) (c_law_refused : Cal P w K mg base A 9 "_law_refused" 1 m_law_refused []) : FnOk P w K mg base (L2N.CX P w) 10 f fd ["_law_script"] (spD K A 1 m_law_whole) :=
  fnD F sc_law_whole fun cdv A' outer s H F0 E hr => by
    have S := sc_law_whole
    have tk : L2N.Takes (cxOf (L2N.CX P w) P w K mg base ["_law_script", "_law_many", "_law_wide", "_law_some", "_law_rows_here", "_law_name"] "_law_whole" (defScope s_law_whole) f cdv A' outer s H E) (fxOf A H F0 E).W := L2N.takes_of rfl rfl rfl rfl
    have hp : PassesOwn (model P w) (A'.deeper (envOfC "_law_whole" (defScope s_law_whole) s.heap.objs.size f cdv)) (envOfC "_law_whole" (defScope s_law_whole) s.heap.objs.size f cdv) (cxOf (L2N.CX P w) P w K mg base ["_law_script", "_law_many", "_law_wide", "_law_some", "_law_rows_here", "_law_name"] "_law_whole" (defScope s_law_whole) f cdv A' outer s H E).xe := passes_of rfl
    have hu := hr.units
    have hu5 := hu65 hr
    exact (pks_cons (pks_set (fun te h => ps_set (i := 1) S.nd rfl (Or.inl rfl) h) (pk_addU (pk_bw (pk_lst (k := .fz) (pka_cons pk_str pka_nil))) (pk_bw (pk_lc (k := .fz) (by decide) (by decide) (pe_lc (own := [("_law_name", 5)]) rfl S.nd (pid_str pk_str) (blkOk_by (own := [("_law_name", 5)]) (N := ["_law_script", "_law_many", "_law_wide", "_law_some", "_law_rows_here", "_law_name"]) (sc := defScope s_law_whole) (by decide +kernel)) (fun _ _ _ _ _ => (pgd_name (pg_name (i := 5) S.nd rfl (Or.inl rfl)))) (fun _ _ _ _ _ => ptsd_nil) (fun _ _ _ _ _ => (pk_addU (pk_bw (pk_addU (pk_bw pk_str) (pk_varB (pv 5)))) (pk_bw pk_str))))))))
    (pks_cons (pks_set (fun te h => ps_set (i := 2) S.nd rfl (Or.inl rfl) h) (pk_lst (k := .fz) (pka_cons pk_str (pka_cons pk_str (pka_cons pk_str (pka_cons pk_str pka_nil))))))
    (pks_cons (pks_set (fun te h => ps_set (i := 3) S.nd rfl (Or.inl rfl) h) (pk_lst (k := .fz) (pka_cons (pk_lst (k := .fz) (pka_cons pk_str (pka_cons pk_str pka_nil))) (pka_cons (pk_lst (k := .fz) (pka_cons pk_str (pka_cons pk_str pka_nil))) (pka_cons (pk_lst (k := .fz) (pka_cons pk_str (pka_cons pk_str pka_nil))) pka_nil)))))
    (pks_cons (pks_for hp rfl (pid_list (pk_addU (pk_bw (pk_lst (k := .fz) (pka_cons (pk_lst (k := .fz) (pka_cons pk_str pka_nil)) (pka_cons (pk_var (pv 1)) (pka_cons (pk_var (pv 2)) pka_nil))))) (pk_varB (pv 3)))) (pgd_name (pg_name (i := 4) S.nd rfl (Or.inl rfl)))
      (pks_cons (pks_set (fun te h => ps_set (i := 4) S.nd rfl (Or.inl rfl) h) (pk_addU (pk_varB (pv 4)) (pk_bw (pk_mulU (pk_bw (pk_lst (k := .fz) (pka_cons pk_str pka_nil))) (pk_bw (pk_mod (pk_bw (pk_f c_law_cell_at tk (hr.mono (by decide)) (pka_cons (pk_var (pv 0)) (pka_cons pk_int pka_nil)))) (pk_bw pk_int)))))))
      (pks_one (pks_if (pt_ne hu (pk_bw (pk_f c_law_refused tk (hr.mono (by decide)) (pka_cons (pk_join1 (pk_bw pk_str) (pka_cons (pk_varB (pv 4)) pka_nil)) pka_nil))) (pk_bw (pk_addU (pk_bw (pk_len T.b_len rfl (pka_cons (pk_varB (pv 4)) pka_nil))) (pk_bw pk_int))))
        (pks_one (pks_ret pk_bl))
        pks_nil))))
    (pks_cons (pks_if (PW.pt (pkw_or (pt_ne hu (pk_bw (pk_f c_law_refused tk (hr.mono (by decide)) (pka_cons pk_str pka_nil))) (pk_bw pk_int)) (pkw_or1 (pt_ne hu (pk_bw (pk_f c_law_refused tk (hr.mono (by decide)) (pka_cons pk_str pka_nil))) (pk_bw pk_int)))))
      (pks_one (pks_ret pk_bl))
      pks_nil)
    (pks_one (pks_ret (pk_eq hu (pk_bw (pk_f c_law_refused tk (hr.mono (by decide)) (pka_cons (pk_join1 (pk_bw pk_str) (pka_cons (pk_bw (pk_slU (pk_varB (pv 1)) pkp_none (pkp_some (pk_bw pk_int)))) pka_nil)) pka_nil))) (pk_bw pk_int)))))))))
theorem sc_Cactus_words : FnScope ["self"] ["self"] (defScope s_Cactus_words) := ⟨rfl, rfl, rfl, by decide +kernel, rfl, by decide +kernel, by decide +kernel⟩
theorem ok_Cactus_words {f : Addr} {fd : FuncData} (F : Fun K "words" "Cactus.words" s_Cactus_words f fd) (T : Txt K mg A Z)  : FnOk P w K mg base (L2N.CX P w) 1 f fd ["self"] (spD K A 1 m_Cactus_words) :=
  fnD F sc_Cactus_words fun cdv A' outer s H F0 E hr => by
    have S := sc_Cactus_words
    have tk : L2N.Takes (cxOf (L2N.CX P w) P w K mg base ["self"] "Cactus.words" (defScope s_Cactus_words) f cdv A' outer s H E) (fxOf A H F0 E).W := L2N.takes_of rfl rfl rfl rfl
    have hp : PassesOwn (model P w) (A'.deeper (envOfC "Cactus.words" (defScope s_Cactus_words) s.heap.objs.size f cdv)) (envOfC "Cactus.words" (defScope s_Cactus_words) s.heap.objs.size f cdv) (cxOf (L2N.CX P w) P w K mg base ["self"] "Cactus.words" (defScope s_Cactus_words) f cdv A' outer s H E).xe := passes_of rfl
    have hu := hr.units
    have hu5 := hu65 hr
    exact (pks_one (pks_ret (pk_lst (k := .fz) (pka_cons pk_str (pka_cons (pk_fld T.cf (pk_varB (pv 0))) (pka_cons (pk_str1 T.b_str rfl (pka_cons (pk_bw (pk_fld T.cf (pk_varB (pv 0)))) pka_nil)) (pka_cons (pk_str1 T.b_str rfl (pka_cons (pk_bw (pk_fld T.cf (pk_varB (pv 0)))) pka_nil)) pka_nil)))))))
theorem sc_Pot_words : FnScope ["self"] ["self"] (defScope s_Pot_words) := ⟨rfl, rfl, rfl, by decide +kernel, rfl, by decide +kernel, by decide +kernel⟩
theorem ok_Pot_words {f : Addr} {fd : FuncData} (F : Fun K "words" "Pot.words" s_Pot_words f fd) (T : Txt K mg A Z)  : FnOk P w K mg base (L2N.CX P w) 1 f fd ["self"] (spD K A 1 m_Pot_words) :=
  fnD F sc_Pot_words fun cdv A' outer s H F0 E hr => by
    have S := sc_Pot_words
    have tk : L2N.Takes (cxOf (L2N.CX P w) P w K mg base ["self"] "Pot.words" (defScope s_Pot_words) f cdv A' outer s H E) (fxOf A H F0 E).W := L2N.takes_of rfl rfl rfl rfl
    have hp : PassesOwn (model P w) (A'.deeper (envOfC "Pot.words" (defScope s_Pot_words) s.heap.objs.size f cdv)) (envOfC "Pot.words" (defScope s_Pot_words) s.heap.objs.size f cdv) (cxOf (L2N.CX P w) P w K mg base ["self"] "Pot.words" (defScope s_Pot_words) f cdv A' outer s H E).xe := passes_of rfl
    have hu := hr.units
    have hu5 := hu65 hr
    exact (pks_one (pks_ret (pk_lst (k := .fz) (pka_cons pk_str (pka_cons (pk_fld T.cf (pk_varB (pv 0))) (pka_cons (pk_str1 T.b_str rfl (pka_cons (pk_bw (pk_fld T.cf (pk_varB (pv 0)))) pka_nil)) pka_nil))))))
theorem sc_bits_of : FnScope ["number", "found", "place"] ["number"] (defScope s_bits_of) := ⟨rfl, rfl, rfl, by decide +kernel, rfl, by decide +kernel, by decide +kernel⟩
theorem ok_bits_of {f : Addr} {fd : FuncData} (F : Fun K "bits_of" "bits_of" s_bits_of f fd) (T : Txt K mg A Z)  : FnOk P w K mg base (L2N.CX P w) 1 f fd ["number"] (spD K A 1 m_bits_of) :=
  fnD F sc_bits_of fun cdv A' outer s H F0 E hr => by
    have S := sc_bits_of
    have tk : L2N.Takes (cxOf (L2N.CX P w) P w K mg base ["number", "found", "place"] "bits_of" (defScope s_bits_of) f cdv A' outer s H E) (fxOf A H F0 E).W := L2N.takes_of rfl rfl rfl rfl
    have hp : PassesOwn (model P w) (A'.deeper (envOfC "bits_of" (defScope s_bits_of) s.heap.objs.size f cdv)) (envOfC "bits_of" (defScope s_bits_of) s.heap.objs.size f cdv) (cxOf (L2N.CX P w) P w K mg base ["number", "found", "place"] "bits_of" (defScope s_bits_of) f cdv A' outer s H E).xe := passes_of rfl
    have hu := hr.units
    have hu5 := hu65 hr
    exact (pks_cons (pks_setO (fun te h => ps_set (i := 1) S.nd rfl (Or.inl rfl) h) (pk_lst (k := .ow) pka_nil))
    (pks_cons (pks_set (fun te h => ps_set (i := 2) S.nd rfl (Or.inl rfl) h) pk_int)
    (pks_cons (pks_while hp (pt_gt (pk_varB (pv 0)) (pk_bw pk_int))
      (pks_cons (pks_if (pt_eq hu (pk_bw (pk_and (pk_varB (pv 0)) (pk_bw pk_int))) (pk_bw pk_int))
        (pks_one (pks_app (fun te ta h ha => ps_expr (pe_bm PySem.F.plainAttrs_list PySem.F.slot_list_append PySem.F.type_list_append mt_append h ha)) (pv 1) (pk_var (pv 2))))
        pks_nil)
      (pks_cons (pks_set (fun te h => ps_set (i := 0) S.nd rfl (Or.inl rfl) h) (pk_shr (pk_varB (pv 0)) (pk_bw pk_int)))
      (pks_one (pks_aug op2_I0 nox_I (fun te h => ps_aug (i := 2) S.nd rfl (Or.inl rfl) h iop_add) (pk_bw pk_int))))))
    (pks_one (pks_retV (pv 1))))))
theorem sc_written : FnScope ["garden", "head", "day", "pot"] ["garden"] (defScope s_written) := ⟨rfl, rfl, rfl, by decide +kernel, rfl, by decide +kernel, by decide +kernel⟩
theorem ok_written {f : Addr} {fd : FuncData} (F : Fun K "written" "written" s_written f fd) (T : Txt K mg A Z) (c_bits_of : Cal P w K mg base A 1 "bits_of" 1 m_bits_of []) (mt_words : ∀ c m, tb_words c = some m → MtD P w K mg base A 1 c "words" 1 m) : FnOk P w K mg base (L2N.CX P w) 2 f fd ["garden"] (spD K A 1 m_written) :=
  fnD F sc_written fun cdv A' outer s H F0 E hr => by
    have S := sc_written
    have tk : L2N.Takes (cxOf (L2N.CX P w) P w K mg base ["garden", "head", "day", "pot"] "written" (defScope s_written) f cdv A' outer s H E) (fxOf A H F0 E).W := L2N.takes_of rfl rfl rfl rfl
    have hp : PassesOwn (model P w) (A'.deeper (envOfC "written" (defScope s_written) s.heap.objs.size f cdv)) (envOfC "written" (defScope s_written) s.heap.objs.size f cdv) (cxOf (L2N.CX P w) P w K mg base ["garden", "head", "day", "pot"] "written" (defScope s_written) f cdv A' outer s H E).xe := passes_of rfl
    have hu := hr.units
    have hu5 := hu65 hr
    exact (pks_cons (pks_setO (fun te h => ps_set (i := 1) S.nd rfl (Or.inl rfl) h) (pk_lst (k := .ow) (pka_cons pk_str (pka_cons (pk_str1 T.b_str rfl (pka_cons (pk_bw (pk_fld T.cf (pk_varB (pv 0)))) pka_nil)) (pka_cons (pk_str1 T.b_str rfl (pka_cons (pk_bw (pk_fld T.cf (pk_varB (pv 0)))) pka_nil)) pka_nil)))))
    (pks_cons (pks_for hp rfl (pid_list (pk_f c_bits_of tk (hr.mono (by decide)) (pka_cons (pk_fld T.cf (pk_varB (pv 0))) pka_nil))) (pgd_name (pg_name (i := 2) S.nd rfl (Or.inl rfl)))
      (pks_one (pks_app (fun te ta h ha => ps_expr (pe_bm PySem.F.plainAttrs_list PySem.F.slot_list_append PySem.F.type_list_append mt_append h ha)) (pv 1) (pk_str1 T.b_str rfl (pka_cons (pk_varB (pv 2)) pka_nil)))))
    (pks_one (pks_ret (pk_join1 (pk_bw pk_str) (pka_cons (pk_bw (pk_addU (pk_bw (pk_lst (k := .fz) (pka_cons (pk_join1 (pk_bw pk_str) (pka_cons (pk_varB (pv 1)) pka_nil)) pka_nil))) (pk_bw (pk_lc (k := .fz) (by decide) (by decide) (pe_lc (own := [("pot", 3)]) rfl S.nd (pid_list (pk_fld T.cf (pk_varB (pv 0)))) (blkOk_by (own := [("pot", 3)]) (N := ["garden", "head", "day", "pot"]) (sc := defScope s_written) (by decide +kernel)) (fun _ _ _ _ _ => (pgd_name (pg_name (i := 3) S.nd rfl (Or.inl rfl)))) (fun _ _ _ _ _ => ptsd_nil) (fun _ _ _ _ _ => (pk_join1 (pk_bw pk_str) (pka_cons (pk_bw (pk_meth0 (c0 := .pot) dc_call takes0 mt_words (hr.mono (by decide)) rfl (pk_var (pv 3)))) pka_nil)))))))) pka_nil))))))
theorem sc_law : FnScope ["_law_script", "_law_rows_here", "_law_good", "_law_k", "_law_cell", "_law_other", "_law_place", "_law_odd", "_law_bad", "_law_ahead", "_law_head", "_law_plain", "_law_row"] ["_law_script"] (defScope s_law) := ⟨rfl, rfl, rfl, by decide +kernel, rfl, by decide +kernel, by decide +kernel⟩
theorem ok_law {f : Addr} {fd : FuncData} (F : Fun K "law" "law" s_law f fd) (T : Txt K mg A Z) (c_law_bad_head : Cal P w K mg base A 1 "_law_bad_head" 1 m_law_bad_head []) (c_law_bad_pot : Cal P w K mg base A 1 "_law_bad_pot" 1 m_law_bad_pot []) (c_law_cell_at : Cal P w K mg base A 1 "_law_cell_at" 2 m_law_cell_at []) (c_law_draw : Cal P w K mg base A 1 "_law_draw" 3 m_law_draw []) (c_law_refused : Cal P w K mg base A 9 "_law_refused" 1 m_law_refused []) (c_law_rows : Cal P w K mg base A 2 "_law_rows" 1 m_law_rows []) (c_law_whole : Cal P w K mg base A 10 "_law_whole" 1 m_law_whole []) (c_written : Cal P w K mg base A 2 "written" 1 m_written []) (cz_read : CalZ P w K mg base A 8 "read" 1 m_read) : FnG P w K mg base (L2N.CX P w) 11 f fd ["_law_script"] (spD K A 1 m_law) :=
  fnG F sc_law fun cdv A' outer s H F0 E hgd hr => by
    have S := sc_law
    have tk : L2N.Takes (cxOf (L2N.CX P w) P w K mg base ["_law_script", "_law_rows_here", "_law_good", "_law_k", "_law_cell", "_law_other", "_law_place", "_law_odd", "_law_bad", "_law_ahead", "_law_head", "_law_plain", "_law_row"] "law" (defScope s_law) f cdv A' outer s H E) (fxOf A H F0 E).W := L2N.takes_of rfl rfl rfl rfl
    have hp : PassesOwn (model P w) (A'.deeper (envOfC "law" (defScope s_law) s.heap.objs.size f cdv)) (envOfC "law" (defScope s_law) s.heap.objs.size f cdv) (cxOf (L2N.CX P w) P w K mg base ["_law_script", "_law_rows_here", "_law_good", "_law_k", "_law_cell", "_law_other", "_law_place", "_law_odd", "_law_bad", "_law_ahead", "_law_head", "_law_plain", "_law_row"] "law" (defScope s_law) f cdv A' outer s H E).xe := passes_of rfl
    have hu := hr.units
    have hu5 := hu65 hr
    exact (pks_cons (pks_set (fun te h => ps_set (i := 1) S.nd rfl (Or.inl rfl) h) (pk_f c_law_rows tk (hr.mono (by decide)) (pka_cons (pk_var (pv 0)) pka_nil)))
    (pks_cons (pks_set (fun te h => ps_set (i := 2) S.nd rfl (Or.inl rfl) h) (pk_join1 (pk_bw pk_str) (pka_cons (pk_varB (pv 1)) pka_nil)))
    (pks_cons (pks_if (pt_ne hu (pk_bw (pk_f c_law_refused tk (hr.mono (by decide)) (pka_cons (pk_var (pv 2)) pka_nil))) (pk_bw pk_int))
      (pks_one (pks_ret pk_bl))
      pks_nil)
    (pks_cons (pks_for hp rfl (pid_range1 T.b_range rfl (pka_cons (pk_bw pk_int) pka_nil)) (pgd_name (pg_name (i := 3) S.nd rfl (Or.inl rfl)))
      (pks_cons (pks_set (fun te h => ps_set (i := 4) S.nd rfl (Or.inl rfl) h) (pk_addU (pk_bw (pk_f c_law_cell_at tk (hr.mono (by decide)) (pka_cons (pk_var (pv 0)) (pka_cons pk_int pka_nil)))) (pk_bw (pk_mulU (pk_bw pk_int) (pk_varB (pv 3))))))
      (pks_cons (pks_set (fun te h => ps_set (i := 5) S.nd rfl (Or.inl rfl) h) (pk_f c_law_cell_at tk (hr.mono (by decide)) (pka_cons (pk_var (pv 0)) (pka_cons pk_int pka_nil))))
      (pks_cons (pks_set (fun te h => ps_set (i := 6) S.nd rfl (Or.inl rfl) h) (pk_addU (pk_bw pk_int) (pk_bw (pk_f c_law_draw tk (hr.mono (by decide)) (pka_cons (pk_var (pv 5)) (pka_cons (pk_var (pv 3)) (pka_cons (pk_sub (pk_bw (pk_len T.b_len rfl (pka_cons (pk_varB (pv 1)) pka_nil))) (pk_bw pk_int)) pka_nil)))))))
      (pks_cons (pks_set (fun te h => ps_set (i := 7) S.nd rfl (Or.inl rfl) h) (pk_addU (pk_bw (pk_mulS (pk_bw pk_str) (pk_bw (pk_mod (pk_varB (pv 4)) (pk_bw pk_int))))) (pk_bw (pk_f c_law_bad_pot tk (hr.mono (by decide)) (pka_cons (pk_mod (pk_varB (pv 4)) (pk_bw pk_int)) pka_nil)))))
      (pks_cons (pks_set (fun te h => ps_set (i := 8) S.nd rfl (Or.inl rfl) h) (pk_addU (pk_bw (pk_addU (pk_bw (pk_slU (pk_varB (pv 1)) pkp_none (pkp_some (pk_varB (pv 6))))) (pk_bw (pk_lst (k := .fz) (pka_cons (pk_var (pv 7)) pka_nil))))) (pk_bw (pk_slU (pk_varB (pv 1)) (pkp_some (pk_varB (pv 6))) pkp_none))))
      (pks_cons (pks_set (fun te h => ps_set (i := 8) S.nd rfl (Or.inl rfl) h) (pk_addU (pk_varB (pv 8)) (pk_bw (pk_mulU (pk_bw (pk_lst (k := .fz) (pka_cons pk_str pka_nil))) (pk_bw (pk_mod (pk_bw (pk_div (pk_varB (pv 4)) (pk_bw pk_int))) (pk_bw pk_int)))))))
      (pks_cons (pks_if (pt_ne hu (pk_bw (pk_f c_law_refused tk (hr.mono (by decide)) (pka_cons (pk_join1 (pk_bw pk_str) (pka_cons (pk_varB (pv 8)) pka_nil)) pka_nil))) (pk_bw (pk_addU (pk_varB (pv 6)) (pk_bw pk_int))))
        (pks_one (pks_ret pk_bl))
        pks_nil)
      (pks_cons (pks_set (fun te h => ps_set (i := 9) S.nd rfl (Or.inl rfl) h) (pk_mod (pk_bw (pk_div (pk_varB (pv 4)) (pk_bw pk_int))) (pk_bw pk_int)))
      (pks_cons (pks_set (fun te h => ps_set (i := 7) S.nd rfl (Or.inl rfl) h) (pk_f c_law_bad_head tk (hr.mono (by decide)) (pka_cons (pk_mod (pk_varB (pv 4)) (pk_bw pk_int)) pka_nil)))
      (pks_cons (pks_set (fun te h => ps_set (i := 10) S.nd rfl (Or.inl rfl) h) (pk_addU (pk_bw (pk_addU (pk_bw (pk_mulU (pk_bw (pk_lst (k := .fz) (pka_cons pk_str pka_nil))) (pk_varB (pv 9)))) (pk_bw (pk_lst (k := .fz) (pka_cons (pk_var (pv 7)) pka_nil))))) (pk_bw (pk_slU (pk_varB (pv 1)) (pkp_some (pk_bw pk_int)) pkp_none))))
      (pks_one (pks_if (pt_ne hu (pk_bw (pk_f c_law_refused tk (hr.mono (by decide)) (pka_cons (pk_join1 (pk_bw pk_str) (pka_cons (pk_varB (pv 10)) pka_nil)) pka_nil))) (pk_bw (pk_addU (pk_bw pk_int) (pk_varB (pv 9)))))
        (pks_one (pks_ret pk_bl))
        pks_nil)))))))))))))
    (pks_cons (pks_setLc (i := 11) (by decide) (ps_setLc (i := 11) (own := [("_law_row", 12)]) rfl S.nd rfl rfl (sw_true rfl rfl rfl (by decide +kernel)) (pid_list (pk_var (pv 1))) (blkOk_by (own := [("_law_row", 12)]) (N := ["_law_script", "_law_rows_here", "_law_good", "_law_k", "_law_cell", "_law_other", "_law_place", "_law_odd", "_law_bad", "_law_ahead", "_law_head", "_law_plain", "_law_row"]) (sc := defScope s_law) (by decide +kernel)) (fun _ _ _ _ _ => (pgd_name (pg_name (i := 12) S.nd rfl (Or.inl rfl)))) (fun _ _ _ _ _ => (ptsd_one (PW.pt (pkw_and (pt_ne hu (pk_bw (pk_strip (pk_varB (pv 12)) (pka_cons (pk_bw pk_str) pka_nil))) (pk_bw pk_str)) (pkw_and1 (pkt_not (pt_b (pk_bw (pk_starts (pk_varB (pv 12)) (pka_cons (pk_bw pk_str) pka_nil)))))))))) (fun _ _ _ _ _ => (pk_var (pv 12)))))
    (pks_cons (pks_if (pt_ne hu (pk_bw (pk_f c_written tk (hr.mono (by decide)) (pka_cons (pk_fQ cz_read (hr.mono (by decide)) (pka_cons (pk_var (pv 2)) pka_nil)) pka_nil))) (pk_bw (pk_join1 (pk_bw pk_str) (pka_cons (pk_varB (pv 11)) pka_nil))))
      (pks_one (pks_ret pk_bl))
      pks_nil)
    (pks_one (pks_ret (pk_f c_law_whole tk (hr.mono (by decide)) (pka_cons (pk_var (pv 0)) pka_nil))))))))))
end
end K09
namespace K09
open PySem PySem.Spec PyProof.Rows L2 Tw
def adOf (CPot CCactus CGarden XBadPot XBadRow XNoPot XNoState XTooMany : Addr) : Ad := ⟨fun z => match z with | .pot => CPot | .cactus => CCactus | .garden => CGarden | .lives => 0, fun z => match z with | .badPot => XBadPot | .tooMany => XTooMany | .noState => XNoState | .noPot => XNoPot | .badRow => XBadRow | .badDay => 0, fun z => match z with | .pot => true | .cactus => true | .garden => true | .lives => false⟩
def spLaw (K : PySem.W.Frag) : Sp := fun vs H Q _ => ∃ (a : Addr) (ns : List Int), vs = [.ref a] ∧ SqL K H a (ns.map V.int) ∧ ns.length ≤ 63 ∧ ∀ v : V, v = .bl true → ∀ H', Q v H'
set_option maxHeartbeats 0 in
theorem all_mk {l : PySem.W.OpenLaw} {w : World} {K : PySem.W.Frag} {h : Heap} {mg : Str → Option Value} {fa CPot CCactus CGarden XBadPot XBadRow XNoPot XNoState XTooMany XBadDay XGardenError f_law_bad_head f_law_bad_pot f_law_cell_at f_law_draw f_law_sorts f_BadRow_init f_Garden_size f_is_whole f_within f_Garden_init T_Garden_init f_number_in f_head_in f_is_name f_Pot_init f_Cactus_init f_pot_in f_words_of f_read f_law_refused f_law_rows f_law_whole f_Cactus_words f_Pot_words f_bits_of f_written f_law : Addr} (plain : ∀ ns : List Int, ns.length ≤ 63 → m_law [.scr ns] = some (.ret (.bl true))) (X : K.In h) (G : h.Ns mainGlobals mg) (hfa : mg "law" = some (.ref fa))
    {od_law_bad_head an_law_bad_head od_law_bad_pot an_law_bad_pot od_law_cell_at an_law_cell_at od_law_draw an_law_draw od_law_sorts an_law_sorts od_BadRow_init an_BadRow_init od_Garden_size an_Garden_size od_is_whole an_is_whole od_within an_within od_Garden_init an_Garden_init tod_Garden_init od_number_in an_number_in od_head_in an_head_in od_is_name an_is_name od_Pot_init an_Pot_init od_Cactus_init an_Cactus_init od_pot_in an_pot_in od_words_of an_words_of od_read an_read od_law_refused an_law_refused od_law_rows an_law_rows od_law_whole an_law_whole od_Cactus_words an_Cactus_words od_Pot_words an_Pot_words od_bits_of an_bits_of od_written an_written od_law an_law : Option Addr} {sl_law_bad_head sl_law_bad_pot sl_law_cell_at sl_law_draw sl_law_sorts sl_BadRow_init sl_Garden_size sl_is_whole sl_within sl_Garden_init tsl_Garden_init sl_number_in sl_head_in sl_is_name sl_Pot_init sl_Cactus_init sl_pot_in sl_words_of sl_read sl_law_refused sl_law_rows sl_law_whole sl_Cactus_words sl_Pot_words sl_bits_of sl_written sl_law : Array (Option Value)} {oc_law_bad_head kV_law_bad_head dc_law_bad_head pm_law_bad_head cd_law_bad_head ct_law_bad_head oc_law_bad_pot kV_law_bad_pot dc_law_bad_pot pm_law_bad_pot cd_law_bad_pot ct_law_bad_pot oc_law_cell_at kV_law_cell_at dc_law_cell_at pm_law_cell_at cd_law_cell_at ct_law_cell_at oc_law_draw kV_law_draw dc_law_draw pm_law_draw cd_law_draw ct_law_draw oc_law_sorts kV_law_sorts dc_law_sorts pm_law_sorts cd_law_sorts ct_law_sorts oc_BadRow_init kV_BadRow_init dc_BadRow_init pm_BadRow_init cd_BadRow_init ct_BadRow_init oc_Garden_size kV_Garden_size dc_Garden_size pm_Garden_size cd_Garden_size ct_Garden_size oc_is_whole kV_is_whole dc_is_whole pm_is_whole cd_is_whole ct_is_whole oc_within kV_within dc_within pm_within cd_within ct_within oc_Garden_init kV_Garden_init dc_Garden_init pm_Garden_init cd_Garden_init ct_Garden_init toc_Garden_init oc_number_in kV_number_in dc_number_in pm_number_in cd_number_in ct_number_in oc_head_in kV_head_in dc_head_in pm_head_in cd_head_in ct_head_in oc_is_name kV_is_name dc_is_name pm_is_name cd_is_name ct_is_name oc_Pot_init kV_Pot_init dc_Pot_init pm_Pot_init cd_Pot_init ct_Pot_init oc_Cactus_init kV_Cactus_init dc_Cactus_init pm_Cactus_init cd_Cactus_init ct_Cactus_init oc_pot_in kV_pot_in dc_pot_in pm_pot_in cd_pot_in ct_pot_in oc_words_of kV_words_of dc_words_of pm_words_of cd_words_of ct_words_of oc_read kV_read dc_read pm_read cd_read ct_read oc_law_refused kV_law_refused dc_law_refused pm_law_refused cd_law_refused ct_law_refused oc_law_rows kV_law_rows dc_law_rows pm_law_rows cd_law_rows ct_law_rows oc_law_whole kV_law_whole dc_law_whole pm_law_whole cd_law_whole ct_law_whole oc_Cactus_words kV_Cactus_words dc_Cactus_words pm_Cactus_words cd_Cactus_words ct_Cactus_words oc_Pot_words kV_Pot_words dc_Pot_words pm_Pot_words cd_Pot_words ct_Pot_words oc_bits_of kV_bits_of dc_bits_of pm_bits_of cd_bits_of ct_bits_of oc_written kV_written dc_written pm_written cd_written ct_written oc_law kV_law dc_law pm_law cd_law ct_law : Value} {tk_FIGURES tk_LETTERS tk_LONGEST tk_LONGEST_WEEK tk_MOST_POTS tk_MOST_STATES tt_Garden_init_0 tt_Garden_init_1 tt_Garden_init_2 : Tok} {tn_Garden_init : Nat}
    (aC_Pot : PySem.W.nsIn K mainGlobals "Pot" = some (some (.ref CPot)))
    (pg_Pot : PySem.W.plainGet K CPot Str.empty = true)
    (hd_Pot : PySem.W.hasDictIn K CPot = true)
    (po_Pot : PySem.W.plainOver K CPot = true)
    (sa_Pot : PySem.W.findIn K (.ref CPot) "__setattr__" = some (some (.builtin "object.__setattr__")))
    (ca_Pot : PySem.W.findIn K (.ref CPot) "__class__" = some (some (.builtin "object.__class__")))
    (mr_Pot : PySem.W.mroIn K CPot (.type "object") = some true)
    (ty_Pot : PySem.W.typeIn K (.ref CPot) = some (.type "type"))
    (ss_Pot : PySem.W.subIn K (.ref CPot) (.ref CPot) = some true)
    (kc_Pot : PySem.W.keepIn K (.ref CPot) = true)
    (no_Pot_name : PySem.W.findIn K (.ref CPot) "name" = some none)
    (no_Pot_gap : PySem.W.findIn K (.ref CPot) "gap" = some none)
    (mks_Pot : PySem.W.makesIn K CPot = true)
    (aC_Cactus : PySem.W.nsIn K mainGlobals "Cactus" = some (some (.ref CCactus)))
    (pg_Cactus : PySem.W.plainGet K CCactus Str.empty = true)
    (hd_Cactus : PySem.W.hasDictIn K CCactus = true)
    (po_Cactus : PySem.W.plainOver K CCactus = true)
    (sa_Cactus : PySem.W.findIn K (.ref CCactus) "__setattr__" = some (some (.builtin "object.__setattr__")))
    (ca_Cactus : PySem.W.findIn K (.ref CCactus) "__class__" = some (some (.builtin "object.__class__")))
    (mr_Cactus : PySem.W.mroIn K CCactus (.type "object") = some true)
    (ty_Cactus : PySem.W.typeIn K (.ref CCactus) = some (.type "type"))
    (ss_Cactus : PySem.W.subIn K (.ref CCactus) (.ref CCactus) = some true)
    (kc_Cactus : PySem.W.keepIn K (.ref CCactus) = true)
    (no_Cactus_name : PySem.W.findIn K (.ref CCactus) "name" = some none)
    (no_Cactus_gap : PySem.W.findIn K (.ref CCactus) "gap" = some none)
    (no_Cactus_rest : PySem.W.findIn K (.ref CCactus) "rest" = some none)
    (mks_Cactus : PySem.W.makesIn K CCactus = true)
    (aC_Garden : PySem.W.nsIn K mainGlobals "Garden" = some (some (.ref CGarden)))
    (pg_Garden : PySem.W.plainGet K CGarden Str.empty = true)
    (hd_Garden : PySem.W.hasDictIn K CGarden = true)
    (po_Garden : PySem.W.plainOver K CGarden = true)
    (sa_Garden : PySem.W.findIn K (.ref CGarden) "__setattr__" = some (some (.builtin "object.__setattr__")))
    (ca_Garden : PySem.W.findIn K (.ref CGarden) "__class__" = some (some (.builtin "object.__class__")))
    (mr_Garden : PySem.W.mroIn K CGarden (.type "object") = some true)
    (ty_Garden : PySem.W.typeIn K (.ref CGarden) = some (.type "type"))
    (ss_Garden : PySem.W.subIn K (.ref CGarden) (.ref CGarden) = some true)
    (kc_Garden : PySem.W.keepIn K (.ref CGarden) = true)
    (no_Garden_pots : PySem.W.findIn K (.ref CGarden) "pots" = some none)
    (no_Garden_cans : PySem.W.findIn K (.ref CGarden) "cans" = some none)
    (no_Garden_week : PySem.W.findIn K (.ref CGarden) "week" = some none)
    (no_Garden_closed : PySem.W.findIn K (.ref CGarden) "closed" = some none)
    (no_Garden_order : PySem.W.findIn K (.ref CGarden) "order" = some none)
    (mks_Garden : PySem.W.makesIn K CGarden = true)
    (spc : PySem.W.specialIn K (.builtin "object.__class__") "__get__" = some (some (.builtin "getset_descriptor.__get__")))
    (tkc : PySem.W.takesIn K (.builtin "object.__class__") = some true)
    (aX_BadPot : PySem.W.nsIn K mainGlobals "BadPot" = some (some (.ref XBadPot)))
    (xe_BadPot : PySem.W.excIn K XBadPot [.type "ValueError", .type "Exception", .type "BaseException", .type "object"] "ValueError.__new__" = true)
    (xk_BadPot : PySem.W.keepIn K (.ref XBadPot) = true)
    (xs_BadPot : PySem.W.subIn K (.ref XBadPot) (.type "BaseException") = some true)
    (xt_BadPot : PySem.W.typeIn K (.ref XBadPot) = some (.type "type"))
    (eg_BadPot : PySem.W.findIn K (.ref XBadPot) "__getattribute__" = some (some (.builtin "BaseException.__getattribute__")))
    (ek_BadPot : PySem.W.findIn K (.ref XBadPot) "__getattr__" = some none)
    (es_BadPot : PySem.W.subIn K (.ref XBadPot) (.type "BaseException") = some true)
    (ed_BadPot : PySem.W.hasDictIn K XBadPot = true)
    (ea_BadPot : PySem.W.findIn K (.ref XBadPot) "__class__" = some (some (.builtin "object.__class__")))
    (em_BadPot : PySem.W.mroIn K XBadPot (.type "object") = some true)
    (aX_BadRow : PySem.W.nsIn K mainGlobals "BadRow" = some (some (.ref XBadRow)))
    (eg_BadRow : PySem.W.findIn K (.ref XBadRow) "__getattribute__" = some (some (.builtin "BaseException.__getattribute__")))
    (ek_BadRow : PySem.W.findIn K (.ref XBadRow) "__getattr__" = some none)
    (es_BadRow : PySem.W.subIn K (.ref XBadRow) (.type "BaseException") = some true)
    (ed_BadRow : PySem.W.hasDictIn K XBadRow = true)
    (ea_BadRow : PySem.W.findIn K (.ref XBadRow) "__class__" = some (some (.builtin "object.__class__")))
    (em_BadRow : PySem.W.mroIn K XBadRow (.type "object") = some true)
    (aX_NoPot : PySem.W.nsIn K mainGlobals "NoPot" = some (some (.ref XNoPot)))
    (xe_NoPot : PySem.W.excIn K XNoPot [.type "ValueError", .type "Exception", .type "BaseException", .type "object"] "ValueError.__new__" = true)
    (xk_NoPot : PySem.W.keepIn K (.ref XNoPot) = true)
    (xs_NoPot : PySem.W.subIn K (.ref XNoPot) (.type "BaseException") = some true)
    (xt_NoPot : PySem.W.typeIn K (.ref XNoPot) = some (.type "type"))
    (aX_NoState : PySem.W.nsIn K mainGlobals "NoState" = some (some (.ref XNoState)))
    (xe_NoState : PySem.W.excIn K XNoState [.type "ValueError", .type "Exception", .type "BaseException", .type "object"] "ValueError.__new__" = true)
    (xk_NoState : PySem.W.keepIn K (.ref XNoState) = true)
    (xs_NoState : PySem.W.subIn K (.ref XNoState) (.type "BaseException") = some true)
    (xt_NoState : PySem.W.typeIn K (.ref XNoState) = some (.type "type"))
    (aX_TooMany : PySem.W.nsIn K mainGlobals "TooMany" = some (some (.ref XTooMany)))
    (xe_TooMany : PySem.W.excIn K XTooMany [.type "ValueError", .type "Exception", .type "BaseException", .type "object"] "ValueError.__new__" = true)
    (xk_TooMany : PySem.W.keepIn K (.ref XTooMany) = true)
    (xs_TooMany : PySem.W.subIn K (.ref XTooMany) (.type "BaseException") = some true)
    (xt_TooMany : PySem.W.typeIn K (.ref XTooMany) = some (.type "type"))
    (eg_TooMany : PySem.W.findIn K (.ref XTooMany) "__getattribute__" = some (some (.builtin "BaseException.__getattribute__")))
    (ek_TooMany : PySem.W.findIn K (.ref XTooMany) "__getattr__" = some none)
    (es_TooMany : PySem.W.subIn K (.ref XTooMany) (.type "BaseException") = some true)
    (ed_TooMany : PySem.W.hasDictIn K XTooMany = true)
    (ea_TooMany : PySem.W.findIn K (.ref XTooMany) "__class__" = some (some (.builtin "object.__class__")))
    (em_TooMany : PySem.W.mroIn K XTooMany (.type "object") = some true)
    (xo_BadRow : oexB K XBadRow = true)
    (xsa_BadRow : PySem.W.findIn K (.ref XBadRow) "__setattr__" = some (some (.builtin "object.__setattr__")))
    (xsb_BadRow : PySem.W.subIn K (.ref XBadRow) (.type "BaseException") = some true)
    (xty_BadRow : PySem.W.typeIn K (.ref XBadRow) = some (.type "type"))
    (xkp_BadRow : PySem.W.keepIn K (.ref XBadRow) = true)
    (xno_BadRow : PySem.W.findIn K (.ref XBadRow) "row" = some none)
    (aX_BadDay : PySem.W.nsIn K mainGlobals "BadDay" = some (some (.ref XBadDay)))
    (aX_GardenError : PySem.W.nsIn K mainGlobals "GardenError" = some (some (.ref XGardenError)))
    (gd_BadDay : PySem.W.hasDictIn K XBadDay = true)
    (gt_BadDay : PySem.W.typeIn K (.ref XBadDay) = some (.type "type"))
    (gs_BadDay : PySem.W.subIn K (.ref XBadDay) (.ref XBadDay) = some true)
    (gb_BadDay : PySem.W.subIn K (.ref XBadDay) (.type "BaseException") = some true)
    (gd_BadPot : PySem.W.hasDictIn K XBadPot = true)
    (gt_BadPot : PySem.W.typeIn K (.ref XBadPot) = some (.type "type"))
    (gs_BadPot : PySem.W.subIn K (.ref XBadPot) (.ref XBadPot) = some true)
    (gb_BadPot : PySem.W.subIn K (.ref XBadPot) (.type "BaseException") = some true)
    (gd_BadRow : PySem.W.hasDictIn K XBadRow = true)
    (gt_BadRow : PySem.W.typeIn K (.ref XBadRow) = some (.type "type"))
    (gs_BadRow : PySem.W.subIn K (.ref XBadRow) (.ref XBadRow) = some true)
    (gb_BadRow : PySem.W.subIn K (.ref XBadRow) (.type "BaseException") = some true)
    (gd_GardenError : PySem.W.hasDictIn K XGardenError = true)
    (gt_GardenError : PySem.W.typeIn K (.ref XGardenError) = some (.type "type"))
    (gs_GardenError : PySem.W.subIn K (.ref XGardenError) (.ref XGardenError) = some true)
    (gb_GardenError : PySem.W.subIn K (.ref XGardenError) (.type "BaseException") = some true)
    (gd_NoPot : PySem.W.hasDictIn K XNoPot = true)
    (gt_NoPot : PySem.W.typeIn K (.ref XNoPot) = some (.type "type"))
    (gs_NoPot : PySem.W.subIn K (.ref XNoPot) (.ref XNoPot) = some true)
    (gb_NoPot : PySem.W.subIn K (.ref XNoPot) (.type "BaseException") = some true)
    (gd_NoState : PySem.W.hasDictIn K XNoState = true)
    (gt_NoState : PySem.W.typeIn K (.ref XNoState) = some (.type "type"))
    (gs_NoState : PySem.W.subIn K (.ref XNoState) (.ref XNoState) = some true)
    (gb_NoState : PySem.W.subIn K (.ref XNoState) (.type "BaseException") = some true)
    (gd_TooMany : PySem.W.hasDictIn K XTooMany = true)
    (gt_TooMany : PySem.W.typeIn K (.ref XTooMany) = some (.type "type"))
    (gs_TooMany : PySem.W.subIn K (.ref XTooMany) (.ref XTooMany) = some true)
    (gb_TooMany : PySem.W.subIn K (.ref XTooMany) (.type "BaseException") = some true)
    (ie_BadDay_badRow : PySem.W.subIn K (.ref XBadRow) (.ref XBadDay) = some false)
    (ie_BadDay_badPot : PySem.W.subIn K (.ref XBadPot) (.ref XBadDay) = some false)
    (ie_BadDay_tooMany : PySem.W.subIn K (.ref XTooMany) (.ref XBadDay) = some false)
    (ie_BadPot_badRow : PySem.W.subIn K (.ref XBadRow) (.ref XBadPot) = some false)
    (ie_BadPot_badPot : PySem.W.subIn K (.ref XBadPot) (.ref XBadPot) = some true)
    (ie_BadPot_tooMany : PySem.W.subIn K (.ref XTooMany) (.ref XBadPot) = some false)
    (ie_BadRow_badRow : PySem.W.subIn K (.ref XBadRow) (.ref XBadRow) = some true)
    (ie_BadRow_badPot : PySem.W.subIn K (.ref XBadPot) (.ref XBadRow) = some false)
    (ie_BadRow_tooMany : PySem.W.subIn K (.ref XTooMany) (.ref XBadRow) = some false)
    (ie_NoPot_badRow : PySem.W.subIn K (.ref XBadRow) (.ref XNoPot) = some false)
    (ie_NoPot_badPot : PySem.W.subIn K (.ref XBadPot) (.ref XNoPot) = some false)
    (ie_NoPot_tooMany : PySem.W.subIn K (.ref XTooMany) (.ref XNoPot) = some false)
    (ie_NoState_badRow : PySem.W.subIn K (.ref XBadRow) (.ref XNoState) = some false)
    (ie_NoState_badPot : PySem.W.subIn K (.ref XBadPot) (.ref XNoState) = some false)
    (ie_NoState_tooMany : PySem.W.subIn K (.ref XTooMany) (.ref XNoState) = some false)
    (ie_TooMany_badRow : PySem.W.subIn K (.ref XBadRow) (.ref XTooMany) = some false)
    (ie_TooMany_badPot : PySem.W.subIn K (.ref XBadPot) (.ref XTooMany) = some false)
    (ie_TooMany_tooMany : PySem.W.subIn K (.ref XTooMany) (.ref XTooMany) = some true)
    (ie_ValueError_badRow : PySem.W.subIn K (.ref XBadRow) (.type "ValueError") = some true)
    (ie_ValueError_badPot : PySem.W.subIn K (.ref XBadPot) (.type "ValueError") = some true)
    (ie_ValueError_tooMany : PySem.W.subIn K (.ref XTooMany) (.type "ValueError") = some true)
    (ct_BadPot_badRow : PySem.W.subIn K (.ref XBadRow) (.ref XBadPot) = some false)
    (ct_BadPot_badPot : PySem.W.subIn K (.ref XBadPot) (.ref XBadPot) = some true)
    (ct_BadPot_tooMany : PySem.W.subIn K (.ref XTooMany) (.ref XBadPot) = some false)
    (ct_GardenError_badRow : PySem.W.subIn K (.ref XBadRow) (.ref XGardenError) = some true)
    (ct_GardenError_badPot : PySem.W.subIn K (.ref XBadPot) (.ref XGardenError) = some true)
    (ct_GardenError_tooMany : PySem.W.subIn K (.ref XTooMany) (.ref XGardenError) = some true)
    (ct_TooMany_badRow : PySem.W.subIn K (.ref XBadRow) (.ref XTooMany) = some false)
    (ct_TooMany_badPot : PySem.W.subIn K (.ref XBadPot) (.ref XTooMany) = some false)
    (ct_TooMany_tooMany : PySem.W.subIn K (.ref XTooMany) (.ref XTooMany) = some true)
    (b_ValueError : PySem.W.nsIn K mainGlobals "ValueError" = some none)
    (b_all : PySem.W.nsIn K mainGlobals "all" = some none)
    (b_bool : PySem.W.nsIn K mainGlobals "bool" = some none)
    (b_divmod : PySem.W.nsIn K mainGlobals "divmod" = some none)
    (b_int : PySem.W.nsIn K mainGlobals "int" = some none)
    (b_isinstance : PySem.W.nsIn K mainGlobals "isinstance" = some none)
    (b_len : PySem.W.nsIn K mainGlobals "len" = some none)
    (b_list : PySem.W.nsIn K mainGlobals "list" = some none)
    (b_range : PySem.W.nsIn K mainGlobals "range" = some none)
    (b_str : PySem.W.nsIn K mainGlobals "str" = some none)
    (b_tuple : PySem.W.nsIn K mainGlobals "tuple" = some none)
    (g_FIGURES : PySem.W.nsIn K mainGlobals "FIGURES" = some (some (.str "0123456789" tk_FIGURES)))
    (g_LETTERS : PySem.W.nsIn K mainGlobals "LETTERS" = some (some (.str "abcdefghijklmnopqrstuvwxyz" tk_LETTERS)))
    (g_LONGEST : PySem.W.nsIn K mainGlobals "LONGEST" = some (some (.int 60 tk_LONGEST)))
    (g_LONGEST_WEEK : PySem.W.nsIn K mainGlobals "LONGEST_WEEK" = some (some (.int 14 tk_LONGEST_WEEK)))
    (g_MOST_POTS : PySem.W.nsIn K mainGlobals "MOST_POTS" = some (some (.int 8 tk_MOST_POTS)))
    (g_MOST_STATES : PySem.W.nsIn K mainGlobals "MOST_STATES" = some (some (.int 20000 tk_MOST_STATES)))
    (is_Pot_o_cactus : PySem.W.subIn K (.ref CCactus) (.ref CPot) = some true)
    (is_Pot_o_pot : PySem.W.subIn K (.ref CPot) (.ref CPot) = some true)
    (rdx_GardenError : PySem.W.readsIn K XGardenError (.type "type") = true)
    (gax_GardenError : PySem.W.specialIn K (.ref XGardenError) "__getattribute__" = some (some (.builtin "type.__getattribute__")))
    (cvx_GardenError : PySem.W.findCls K (.ref XGardenError) (.type "type") "__init__" = some (.val (.builtin "ValueError.__init__")))
    (a_law_bad_head : PySem.W.nsIn K mainGlobals "_law_bad_head" = some (some (.ref f_law_bad_head)))
    (l_law_bad_head : K.lookup f_law_bad_head = some ⟨oc_law_bad_head, od_law_bad_head, .func (PySem.W.fnOf "_law_bad_head" "_law_bad_head" (defArgs s_law_bad_head) (defBody s_law_bad_head) (defScope s_law_bad_head) .none kV_law_bad_head dc_law_bad_head pm_law_bad_head an_law_bad_head cd_law_bad_head ct_law_bad_head), sl_law_bad_head⟩)
    (c_law_bad_head : PySem.W.codeIn K cd_law_bad_head "_law_bad_head" = true)
    (k_law_bad_head : PySem.W.keepIn K (.ref f_law_bad_head) = true)
    (a_law_bad_pot : PySem.W.nsIn K mainGlobals "_law_bad_pot" = some (some (.ref f_law_bad_pot)))
    (l_law_bad_pot : K.lookup f_law_bad_pot = some ⟨oc_law_bad_pot, od_law_bad_pot, .func (PySem.W.fnOf "_law_bad_pot" "_law_bad_pot" (defArgs s_law_bad_pot) (defBody s_law_bad_pot) (defScope s_law_bad_pot) .none kV_law_bad_pot dc_law_bad_pot pm_law_bad_pot an_law_bad_pot cd_law_bad_pot ct_law_bad_pot), sl_law_bad_pot⟩)
    (c_law_bad_pot : PySem.W.codeIn K cd_law_bad_pot "_law_bad_pot" = true)
    (k_law_bad_pot : PySem.W.keepIn K (.ref f_law_bad_pot) = true)
    (a_law_cell_at : PySem.W.nsIn K mainGlobals "_law_cell_at" = some (some (.ref f_law_cell_at)))
    (l_law_cell_at : K.lookup f_law_cell_at = some ⟨oc_law_cell_at, od_law_cell_at, .func (PySem.W.fnOf "_law_cell_at" "_law_cell_at" (defArgs s_law_cell_at) (defBody s_law_cell_at) (defScope s_law_cell_at) .none kV_law_cell_at dc_law_cell_at pm_law_cell_at an_law_cell_at cd_law_cell_at ct_law_cell_at), sl_law_cell_at⟩)
    (c_law_cell_at : PySem.W.codeIn K cd_law_cell_at "_law_cell_at" = true)
    (k_law_cell_at : PySem.W.keepIn K (.ref f_law_cell_at) = true)
    (a_law_draw : PySem.W.nsIn K mainGlobals "_law_draw" = some (some (.ref f_law_draw)))
    (l_law_draw : K.lookup f_law_draw = some ⟨oc_law_draw, od_law_draw, .func (PySem.W.fnOf "_law_draw" "_law_draw" (defArgs s_law_draw) (defBody s_law_draw) (defScope s_law_draw) .none kV_law_draw dc_law_draw pm_law_draw an_law_draw cd_law_draw ct_law_draw), sl_law_draw⟩)
    (c_law_draw : PySem.W.codeIn K cd_law_draw "_law_draw" = true)
    (k_law_draw : PySem.W.keepIn K (.ref f_law_draw) = true)
    (a_law_sorts : PySem.W.nsIn K mainGlobals "_law_sorts" = some (some (.ref f_law_sorts)))
    (l_law_sorts : K.lookup f_law_sorts = some ⟨oc_law_sorts, od_law_sorts, .func (PySem.W.fnOf "_law_sorts" "_law_sorts" (defArgs s_law_sorts) (defBody s_law_sorts) (defScope s_law_sorts) .none kV_law_sorts dc_law_sorts pm_law_sorts an_law_sorts cd_law_sorts ct_law_sorts), sl_law_sorts⟩)
    (c_law_sorts : PySem.W.codeIn K cd_law_sorts "_law_sorts" = true)
    (k_law_sorts : PySem.W.keepIn K (.ref f_law_sorts) = true)
    (a_BadRow_init : PySem.W.findIn K (.ref XBadRow) "__init__" = some (some (.ref f_BadRow_init)))
    (i_BadRow_init : PySem.W.typeIn K (.ref f_BadRow_init) = some (.type "function"))
    (l_BadRow_init : K.lookup f_BadRow_init = some ⟨oc_BadRow_init, od_BadRow_init, .func (PySem.W.fnOf "__init__" "BadRow.__init__" (defArgs s_BadRow_init) (defBody s_BadRow_init) (defScope s_BadRow_init) .none kV_BadRow_init dc_BadRow_init pm_BadRow_init an_BadRow_init cd_BadRow_init ct_BadRow_init), sl_BadRow_init⟩)
    (c_BadRow_init : PySem.W.codeIn K cd_BadRow_init "BadRow.__init__" = true)
    (k_BadRow_init : PySem.W.keepIn K (.ref f_BadRow_init) = true)
    (a_Garden_size : PySem.W.findIn K (.ref CGarden) "size" = some (some (.ref f_Garden_size)))
    (i_Garden_size : PySem.W.isFn K (.ref f_Garden_size) = true)
    (l_Garden_size : K.lookup f_Garden_size = some ⟨oc_Garden_size, od_Garden_size, .func (PySem.W.fnOf "size" "Garden.size" (defArgs s_Garden_size) (defBody s_Garden_size) (defScope s_Garden_size) .none kV_Garden_size dc_Garden_size pm_Garden_size an_Garden_size cd_Garden_size ct_Garden_size), sl_Garden_size⟩)
    (c_Garden_size : PySem.W.codeIn K cd_Garden_size "Garden.size" = true)
    (k_Garden_size : PySem.W.keepIn K (.ref f_Garden_size) = true)
    (a_is_whole : PySem.W.nsIn K mainGlobals "is_whole" = some (some (.ref f_is_whole)))
    (l_is_whole : K.lookup f_is_whole = some ⟨oc_is_whole, od_is_whole, .func (PySem.W.fnOf "is_whole" "is_whole" (defArgs s_is_whole) (defBody s_is_whole) (defScope s_is_whole) .none kV_is_whole dc_is_whole pm_is_whole an_is_whole cd_is_whole ct_is_whole), sl_is_whole⟩)
    (c_is_whole : PySem.W.codeIn K cd_is_whole "is_whole" = true)
    (k_is_whole : PySem.W.keepIn K (.ref f_is_whole) = true)
    (a_within : PySem.W.nsIn K mainGlobals "within" = some (some (.ref f_within)))
    (l_within : K.lookup f_within = some ⟨oc_within, od_within, .func (PySem.W.fnOf "within" "within" (defArgs s_within) (defBody s_within) (defScope s_within) .none kV_within dc_within pm_within an_within cd_within ct_within), sl_within⟩)
    (c_within : PySem.W.codeIn K cd_within "within" = true)
    (k_within : PySem.W.keepIn K (.ref f_within) = true)
    (a_Garden_init : PySem.W.findIn K (.ref CGarden) "__init__" = some (some (.ref f_Garden_init)))
    (i_Garden_init : PySem.W.isFn K (.ref f_Garden_init) = true)
    (l_Garden_init : K.lookup f_Garden_init = some ⟨oc_Garden_init, od_Garden_init, .func (PySem.W.fnOf "__init__" "Garden.__init__" (defArgs s_Garden_init) (defBody s_Garden_init) (defScope s_Garden_init) (.ref T_Garden_init) kV_Garden_init dc_Garden_init pm_Garden_init an_Garden_init cd_Garden_init ct_Garden_init), sl_Garden_init⟩)
    (c_Garden_init : PySem.W.codeIn K cd_Garden_init "Garden.__init__" = true)
    (k_Garden_init : PySem.W.keepIn K (.ref f_Garden_init) = true)
    (t_Garden_init : K.lookup T_Garden_init = some ⟨toc_Garden_init, tod_Garden_init, .seq (List.toArray [.int 1 tt_Garden_init_0, .int 1 tt_Garden_init_1, .int 0 tt_Garden_init_2]) tn_Garden_init, tsl_Garden_init⟩)
    (a_number_in : PySem.W.nsIn K mainGlobals "number_in" = some (some (.ref f_number_in)))
    (l_number_in : K.lookup f_number_in = some ⟨oc_number_in, od_number_in, .func (PySem.W.fnOf "number_in" "number_in" (defArgs s_number_in) (defBody s_number_in) (defScope s_number_in) .none kV_number_in dc_number_in pm_number_in an_number_in cd_number_in ct_number_in), sl_number_in⟩)
    (c_number_in : PySem.W.codeIn K cd_number_in "number_in" = true)
    (k_number_in : PySem.W.keepIn K (.ref f_number_in) = true)
    (a_head_in : PySem.W.nsIn K mainGlobals "head_in" = some (some (.ref f_head_in)))
    (l_head_in : K.lookup f_head_in = some ⟨oc_head_in, od_head_in, .func (PySem.W.fnOf "head_in" "head_in" (defArgs s_head_in) (defBody s_head_in) (defScope s_head_in) .none kV_head_in dc_head_in pm_head_in an_head_in cd_head_in ct_head_in), sl_head_in⟩)
    (c_head_in : PySem.W.codeIn K cd_head_in "head_in" = true)
    (k_head_in : PySem.W.keepIn K (.ref f_head_in) = true)
    (a_is_name : PySem.W.nsIn K mainGlobals "is_name" = some (some (.ref f_is_name)))
    (l_is_name : K.lookup f_is_name = some ⟨oc_is_name, od_is_name, .func (PySem.W.fnOf "is_name" "is_name" (defArgs s_is_name) (defBody s_is_name) (defScope s_is_name) .none kV_is_name dc_is_name pm_is_name an_is_name cd_is_name ct_is_name), sl_is_name⟩)
    (c_is_name : PySem.W.codeIn K cd_is_name "is_name" = true)
    (k_is_name : PySem.W.keepIn K (.ref f_is_name) = true)
    (a_Pot_init : PySem.W.findIn K (.ref CPot) "__init__" = some (some (.ref f_Pot_init)))
    (i_Pot_init : PySem.W.isFn K (.ref f_Pot_init) = true)
    (l_Pot_init : K.lookup f_Pot_init = some ⟨oc_Pot_init, od_Pot_init, .func (PySem.W.fnOf "__init__" "Pot.__init__" (defArgs s_Pot_init) (defBody s_Pot_init) (defScope s_Pot_init) .none kV_Pot_init dc_Pot_init pm_Pot_init an_Pot_init cd_Pot_init ct_Pot_init), sl_Pot_init⟩)
    (c_Pot_init : PySem.W.codeIn K cd_Pot_init "Pot.__init__" = true)
    (k_Pot_init : PySem.W.keepIn K (.ref f_Pot_init) = true)
    (a_Cactus_init : PySem.W.findIn K (.ref CCactus) "__init__" = some (some (.ref f_Cactus_init)))
    (i_Cactus_init : PySem.W.isFn K (.ref f_Cactus_init) = true)
    (l_Cactus_init : K.lookup f_Cactus_init = some ⟨oc_Cactus_init, od_Cactus_init, .func (PySem.W.fnOf "__init__" "Cactus.__init__" (defArgs s_Cactus_init) (defBody s_Cactus_init) (defScope s_Cactus_init) .none kV_Cactus_init dc_Cactus_init pm_Cactus_init an_Cactus_init cd_Cactus_init ct_Cactus_init), sl_Cactus_init⟩)
    (c_Cactus_init : PySem.W.codeIn K cd_Cactus_init "Cactus.__init__" = true)
    (k_Cactus_init : PySem.W.keepIn K (.ref f_Cactus_init) = true)
    (a_pot_in : PySem.W.nsIn K mainGlobals "pot_in" = some (some (.ref f_pot_in)))
    (l_pot_in : K.lookup f_pot_in = some ⟨oc_pot_in, od_pot_in, .func (PySem.W.fnOf "pot_in" "pot_in" (defArgs s_pot_in) (defBody s_pot_in) (defScope s_pot_in) .none kV_pot_in dc_pot_in pm_pot_in an_pot_in cd_pot_in ct_pot_in), sl_pot_in⟩)
    (c_pot_in : PySem.W.codeIn K cd_pot_in "pot_in" = true)
    (k_pot_in : PySem.W.keepIn K (.ref f_pot_in) = true)
    (a_words_of : PySem.W.nsIn K mainGlobals "words_of" = some (some (.ref f_words_of)))
    (l_words_of : K.lookup f_words_of = some ⟨oc_words_of, od_words_of, .func (PySem.W.fnOf "words_of" "words_of" (defArgs s_words_of) (defBody s_words_of) (defScope s_words_of) .none kV_words_of dc_words_of pm_words_of an_words_of cd_words_of ct_words_of), sl_words_of⟩)
    (c_words_of : PySem.W.codeIn K cd_words_of "words_of" = true)
    (k_words_of : PySem.W.keepIn K (.ref f_words_of) = true)
    (a_read : PySem.W.nsIn K mainGlobals "read" = some (some (.ref f_read)))
    (l_read : K.lookup f_read = some ⟨oc_read, od_read, .func (PySem.W.fnOf "read" "read" (defArgs s_read) (defBody s_read) (defScope s_read) .none kV_read dc_read pm_read an_read cd_read ct_read), sl_read⟩)
    (c_read : PySem.W.codeIn K cd_read "read" = true)
    (k_read : PySem.W.keepIn K (.ref f_read) = true)
    (a_law_refused : PySem.W.nsIn K mainGlobals "_law_refused" = some (some (.ref f_law_refused)))
    (l_law_refused : K.lookup f_law_refused = some ⟨oc_law_refused, od_law_refused, .func (PySem.W.fnOf "_law_refused" "_law_refused" (defArgs s_law_refused) (defBody s_law_refused) (defScope s_law_refused) .none kV_law_refused dc_law_refused pm_law_refused an_law_refused cd_law_refused ct_law_refused), sl_law_refused⟩)
    (c_law_refused : PySem.W.codeIn K cd_law_refused "_law_refused" = true)
    (k_law_refused : PySem.W.keepIn K (.ref f_law_refused) = true)
    (a_law_rows : PySem.W.nsIn K mainGlobals "_law_rows" = some (some (.ref f_law_rows)))
    (l_law_rows : K.lookup f_law_rows = some ⟨oc_law_rows, od_law_rows, .func (PySem.W.fnOf "_law_rows" "_law_rows" (defArgs s_law_rows) (defBody s_law_rows) (defScope s_law_rows) .none kV_law_rows dc_law_rows pm_law_rows an_law_rows cd_law_rows ct_law_rows), sl_law_rows⟩)
    (c_law_rows : PySem.W.codeIn K cd_law_rows "_law_rows" = true)
    (k_law_rows : PySem.W.keepIn K (.ref f_law_rows) = true)
    (a_law_whole : PySem.W.nsIn K mainGlobals "_law_whole" = some (some (.ref f_law_whole)))
    (l_law_whole : K.lookup f_law_whole = some ⟨oc_law_whole, od_law_whole, .func (PySem.W.fnOf "_law_whole" "_law_whole" (defArgs s_law_whole) (defBody s_law_whole) (defScope s_law_whole) .none kV_law_whole dc_law_whole pm_law_whole an_law_whole cd_law_whole ct_law_whole), sl_law_whole⟩)
    (c_law_whole : PySem.W.codeIn K cd_law_whole "_law_whole" = true)
    (k_law_whole : PySem.W.keepIn K (.ref f_law_whole) = true)
    (a_Cactus_words : PySem.W.findIn K (.ref CCactus) "words" = some (some (.ref f_Cactus_words)))
    (i_Cactus_words : PySem.W.isFn K (.ref f_Cactus_words) = true)
    (l_Cactus_words : K.lookup f_Cactus_words = some ⟨oc_Cactus_words, od_Cactus_words, .func (PySem.W.fnOf "words" "Cactus.words" (defArgs s_Cactus_words) (defBody s_Cactus_words) (defScope s_Cactus_words) .none kV_Cactus_words dc_Cactus_words pm_Cactus_words an_Cactus_words cd_Cactus_words ct_Cactus_words), sl_Cactus_words⟩)
    (c_Cactus_words : PySem.W.codeIn K cd_Cactus_words "Cactus.words" = true)
    (k_Cactus_words : PySem.W.keepIn K (.ref f_Cactus_words) = true)
    (a_Pot_words : PySem.W.findIn K (.ref CPot) "words" = some (some (.ref f_Pot_words)))
    (i_Pot_words : PySem.W.isFn K (.ref f_Pot_words) = true)
    (l_Pot_words : K.lookup f_Pot_words = some ⟨oc_Pot_words, od_Pot_words, .func (PySem.W.fnOf "words" "Pot.words" (defArgs s_Pot_words) (defBody s_Pot_words) (defScope s_Pot_words) .none kV_Pot_words dc_Pot_words pm_Pot_words an_Pot_words cd_Pot_words ct_Pot_words), sl_Pot_words⟩)
    (c_Pot_words : PySem.W.codeIn K cd_Pot_words "Pot.words" = true)
    (k_Pot_words : PySem.W.keepIn K (.ref f_Pot_words) = true)
    (a_bits_of : PySem.W.nsIn K mainGlobals "bits_of" = some (some (.ref f_bits_of)))
    (l_bits_of : K.lookup f_bits_of = some ⟨oc_bits_of, od_bits_of, .func (PySem.W.fnOf "bits_of" "bits_of" (defArgs s_bits_of) (defBody s_bits_of) (defScope s_bits_of) .none kV_bits_of dc_bits_of pm_bits_of an_bits_of cd_bits_of ct_bits_of), sl_bits_of⟩)
    (c_bits_of : PySem.W.codeIn K cd_bits_of "bits_of" = true)
    (k_bits_of : PySem.W.keepIn K (.ref f_bits_of) = true)
    (a_written : PySem.W.nsIn K mainGlobals "written" = some (some (.ref f_written)))
    (l_written : K.lookup f_written = some ⟨oc_written, od_written, .func (PySem.W.fnOf "written" "written" (defArgs s_written) (defBody s_written) (defScope s_written) .none kV_written dc_written pm_written an_written cd_written ct_written), sl_written⟩)
    (c_written : PySem.W.codeIn K cd_written "written" = true)
    (k_written : PySem.W.keepIn K (.ref f_written) = true)
    (a_law : PySem.W.nsIn K mainGlobals "law" = some (some (.ref f_law)))
    (l_law : K.lookup f_law = some ⟨oc_law, od_law, .func (PySem.W.fnOf "law" "law" (defArgs s_law) (defBody s_law) (defScope s_law) .none kV_law dc_law pm_law an_law cd_law ct_law), sl_law⟩)
    (c_law : PySem.W.codeIn K cd_law "law" = true)
    (k_law : PySem.W.keepIn K (.ref f_law) = true)
    (rd_Pot : PySem.W.readsIn K CPot (.type "type") = true)
    (ga_Pot : PySem.W.specialIn K (.ref CPot) "__getattribute__" = some (some (.builtin "type.__getattribute__")))
    (cv_Pot : PySem.W.findCls K (.ref CPot) (.type "type") "__init__" = some (.val (.ref f_Pot_init))) :
    ∃ fd : FuncData, (∀ (s : Shared) (v : Value), BindsTo s fd ⟨[v], []⟩ [("_law_script", v)]) ∧ ∀ base : Heap, K.In base → base.Ns mainGlobals mg → FnG l.prog w K mg base (L2N.CX l.prog w) 11 fa fd ["_law_script"] (spLaw K) := by
  have q := hfa.symm.trans (PySem.W.mg_of X G a_law)
  cases q
  refine ⟨PySem.W.fnOf "law" "law" (defArgs s_law) (defBody s_law) (defScope s_law) .none kV_law dc_law pm_law an_law cd_law ct_law, fun s v => .of_eq rfl, fun base _ _ => ?_⟩
  generalize eA : adOf CPot CCactus CGarden XBadPot XBadRow XNoPot XNoState XTooMany = A
  have eC_Pot : A.cl .pot = CPot := by rw [← eA]; rfl
  have eC_Cactus : A.cl .cactus = CCactus := by rw [← eA]; rfl
  have eC_Garden : A.cl .garden = CGarden := by rw [← eA]; rfl
  have eX_BadPot : A.xc .badPot = XBadPot := by rw [← eA]; rfl
  have eX_BadRow : A.xc .badRow = XBadRow := by rw [← eA]; rfl
  have eX_NoPot : A.xc .noPot = XNoPot := by rw [← eA]; rfl
  have eX_NoState : A.xc .noState = XNoState := by rw [← eA]; rfl
  have eX_TooMany : A.xc .tooMany = XTooMany := by rw [← eA]; rfl
  have cl_Pot : Cls K (A.cl .pot) := by rw [eC_Pot]; exact ⟨pg_Pot, hd_Pot, po_Pot, sa_Pot⟩
  have cl_Cactus : Cls K (A.cl .cactus) := by rw [eC_Cactus]; exact ⟨pg_Cactus, hd_Cactus, po_Cactus, sa_Cactus⟩
  have cl_Garden : Cls K (A.cl .garden) := by rw [eC_Garden]; exact ⟨pg_Garden, hd_Garden, po_Garden, sa_Garden⟩
  have nn_Pot : ∀ n, n ∈ Cl.names .pot → NoAttr K (A.cl .pot) n := by
    rw [eC_Pot]; intro n hn
    simp only [Cl.names, List.mem_cons, List.not_mem_nil, or_false] at hn
    rcases hn with rfl | rfl
    · exact no_Pot_name
    · exact no_Pot_gap
  have nn_Cactus : ∀ n, n ∈ Cl.names .cactus → NoAttr K (A.cl .cactus) n := by
    rw [eC_Cactus]; intro n hn
    simp only [Cl.names, List.mem_cons, List.not_mem_nil, or_false] at hn
    rcases hn with rfl | rfl | rfl
    · exact no_Cactus_name
    · exact no_Cactus_gap
    · exact no_Cactus_rest
  have nn_Garden : ∀ n, n ∈ Cl.names .garden → NoAttr K (A.cl .garden) n := by
    rw [eC_Garden]; intro n hn
    simp only [Cl.names, List.mem_cons, List.not_mem_nil, or_false] at hn
    rcases hn with rfl | rfl | rfl | rfl | rfl
    · exact no_Garden_pots
    · exact no_Garden_cans
    · exact no_Garden_week
    · exact no_Garden_closed
    · exact no_Garden_order
  have hasA : ∀ c, A.has c = true → c = .pot ∨ c = .cactus ∨ c = .garden := by
    intro c hc; rw [← eA] at hc; cases c <;> first | (simp; done) | cases hc
  have cf1 : ∀ c, A.has c = true → Cls K (A.cl c) := by
    intro c hc; rcases hasA c hc with rfl | rfl | rfl
    · exact cl_Pot
    · exact cl_Cactus
    · exact cl_Garden
  have cf2 : ∀ c n, A.has c = true → n ∈ c.names → NoAttr K (A.cl c) n := by
    intro c n hc hn; rcases hasA c hc with rfl | rfl | rfl
    · exact nn_Pot n hn
    · exact nn_Cactus n hn
    · exact nn_Garden n hn
  have cf3 : ∀ c, A.has c = true → PySem.W.findIn K (.ref (A.cl c)) "__class__" = some (some (.builtin "object.__class__")) := by
    intro c hc; rcases hasA c hc with rfl | rfl | rfl
    · rw [eC_Pot]; exact ca_Pot
    · rw [eC_Cactus]; exact ca_Cactus
    · rw [eC_Garden]; exact ca_Garden
  have cf4 : ∀ c, A.has c = true → PySem.W.mroIn K (A.cl c) (.type "object") = some true := by
    intro c hc; rcases hasA c hc with rfl | rfl | rfl
    · rw [eC_Pot]; exact mr_Pot
    · rw [eC_Cactus]; exact mr_Cactus
    · rw [eC_Garden]; exact mr_Garden
  have cfA : ClsF K A := ⟨cf1, cf2, cf3, cf4, spc, tkc⟩
  have T : Txt K mg A ⟨XBadDay, XBadPot, XBadRow, XGardenError, XNoPot, XNoState, XTooMany⟩ := {
      b_ValueError := PySem.W.mg_none_of X G b_ValueError
      b_all := PySem.W.mg_none_of X G b_all
      b_bool := PySem.W.mg_none_of X G b_bool
      b_divmod := PySem.W.mg_none_of X G b_divmod
      b_int := PySem.W.mg_none_of X G b_int
      b_isinstance := PySem.W.mg_none_of X G b_isinstance
      b_len := PySem.W.mg_none_of X G b_len
      b_list := PySem.W.mg_none_of X G b_list
      b_range := PySem.W.mg_none_of X G b_range
      b_str := PySem.W.mg_none_of X G b_str
      b_tuple := PySem.W.mg_none_of X G b_tuple
      g_FIGURES := ⟨_, PySem.W.mg_of X G g_FIGURES, ⟨_, rfl⟩⟩
      g_LETTERS := ⟨_, PySem.W.mg_of X G g_LETTERS, ⟨_, rfl⟩⟩
      g_LONGEST := ⟨_, PySem.W.mg_of X G g_LONGEST, ⟨_, rfl⟩⟩
      g_LONGEST_WEEK := ⟨_, PySem.W.mg_of X G g_LONGEST_WEEK, ⟨_, rfl⟩⟩
      g_MOST_POTS := ⟨_, PySem.W.mg_of X G g_MOST_POTS, ⟨_, rfl⟩⟩
      g_MOST_STATES := ⟨_, PySem.W.mg_of X G g_MOST_STATES, ⟨_, rfl⟩⟩
      cf := cfA
      is_Pot := by
            intro t b ht _
            unfold isPot at ht
            split at ht
            · cases ht; have z := kit_ref hd_Pot ty_Pot ss_Pot is_Pot_o_cactus; first | (show PySem.W.kitOne K (.ref (A.cl .cactus)) (.ref (A.cl .pot)) = _; rw [eC_Pot, eC_Cactus]; exact z) | (rw [eC_Pot]; exact z)
            · cases ht; have z := kit_ref hd_Pot ty_Pot ss_Pot is_Pot_o_pot; first | (show PySem.W.kitOne K (.ref (A.cl .pot)) (.ref (A.cl .pot)) = _; rw [eC_Pot]; exact z) | (rw [eC_Pot]; exact z)
            · cases ht
      g_Pot := by rw [eC_Pot]; exact PySem.W.mg_of X G aC_Pot
      gx_BadDay := PySem.W.mg_of X G aX_BadDay
      gx_BadPot := PySem.W.mg_of X G aX_BadPot
      gx_BadRow := PySem.W.mg_of X G aX_BadRow
      gx_GardenError := PySem.W.mg_of X G aX_GardenError
      gx_NoPot := PySem.W.mg_of X G aX_NoPot
      gx_NoState := PySem.W.mg_of X G aX_NoState
      gx_TooMany := PySem.W.mg_of X G aX_TooMany
      isE_BadDay := by
            intro c b hc
            unfold isE_BadDay at hc
            split at hc
            · cases hc; refine ⟨?_, ?_⟩
              · rw [eX_BadRow]; exact ⟨eg_BadRow, ek_BadRow, es_BadRow, ed_BadRow, ea_BadRow, spc, tkc, em_BadRow⟩
              · rw [eX_BadRow]; exact kit_ref gd_BadDay gt_BadDay gs_BadDay ie_BadDay_badRow
            · cases hc; refine ⟨?_, ?_⟩
              · rw [eX_BadPot]; exact ⟨eg_BadPot, ek_BadPot, es_BadPot, ed_BadPot, ea_BadPot, spc, tkc, em_BadPot⟩
              · rw [eX_BadPot]; exact kit_ref gd_BadDay gt_BadDay gs_BadDay ie_BadDay_badPot
            · cases hc; refine ⟨?_, ?_⟩
              · rw [eX_TooMany]; exact ⟨eg_TooMany, ek_TooMany, es_TooMany, ed_TooMany, ea_TooMany, spc, tkc, em_TooMany⟩
              · rw [eX_TooMany]; exact kit_ref gd_BadDay gt_BadDay gs_BadDay ie_BadDay_tooMany
            · cases hc
      isE_BadPot := by
            intro c b hc
            unfold isE_BadPot at hc
            split at hc
            · cases hc; refine ⟨?_, ?_⟩
              · rw [eX_BadRow]; exact ⟨eg_BadRow, ek_BadRow, es_BadRow, ed_BadRow, ea_BadRow, spc, tkc, em_BadRow⟩
              · rw [eX_BadRow]; exact kit_ref gd_BadPot gt_BadPot gs_BadPot ie_BadPot_badRow
            · cases hc; refine ⟨?_, ?_⟩
              · rw [eX_BadPot]; exact ⟨eg_BadPot, ek_BadPot, es_BadPot, ed_BadPot, ea_BadPot, spc, tkc, em_BadPot⟩
              · rw [eX_BadPot]; exact kit_ref gd_BadPot gt_BadPot gs_BadPot ie_BadPot_badPot
            · cases hc; refine ⟨?_, ?_⟩
              · rw [eX_TooMany]; exact ⟨eg_TooMany, ek_TooMany, es_TooMany, ed_TooMany, ea_TooMany, spc, tkc, em_TooMany⟩
              · rw [eX_TooMany]; exact kit_ref gd_BadPot gt_BadPot gs_BadPot ie_BadPot_tooMany
            · cases hc
      isE_BadRow := by
            intro c b hc
            unfold isE_BadRow at hc
            split at hc
            · cases hc; refine ⟨?_, ?_⟩
              · rw [eX_BadRow]; exact ⟨eg_BadRow, ek_BadRow, es_BadRow, ed_BadRow, ea_BadRow, spc, tkc, em_BadRow⟩
              · rw [eX_BadRow]; exact kit_ref gd_BadRow gt_BadRow gs_BadRow ie_BadRow_badRow
            · cases hc; refine ⟨?_, ?_⟩
              · rw [eX_BadPot]; exact ⟨eg_BadPot, ek_BadPot, es_BadPot, ed_BadPot, ea_BadPot, spc, tkc, em_BadPot⟩
              · rw [eX_BadPot]; exact kit_ref gd_BadRow gt_BadRow gs_BadRow ie_BadRow_badPot
            · cases hc; refine ⟨?_, ?_⟩
              · rw [eX_TooMany]; exact ⟨eg_TooMany, ek_TooMany, es_TooMany, ed_TooMany, ea_TooMany, spc, tkc, em_TooMany⟩
              · rw [eX_TooMany]; exact kit_ref gd_BadRow gt_BadRow gs_BadRow ie_BadRow_tooMany
            · cases hc
      isE_NoPot := by
            intro c b hc
            unfold isE_NoPot at hc
            split at hc
            · cases hc; refine ⟨?_, ?_⟩
              · rw [eX_BadRow]; exact ⟨eg_BadRow, ek_BadRow, es_BadRow, ed_BadRow, ea_BadRow, spc, tkc, em_BadRow⟩
              · rw [eX_BadRow]; exact kit_ref gd_NoPot gt_NoPot gs_NoPot ie_NoPot_badRow
            · cases hc; refine ⟨?_, ?_⟩
              · rw [eX_BadPot]; exact ⟨eg_BadPot, ek_BadPot, es_BadPot, ed_BadPot, ea_BadPot, spc, tkc, em_BadPot⟩
              · rw [eX_BadPot]; exact kit_ref gd_NoPot gt_NoPot gs_NoPot ie_NoPot_badPot
            · cases hc; refine ⟨?_, ?_⟩
              · rw [eX_TooMany]; exact ⟨eg_TooMany, ek_TooMany, es_TooMany, ed_TooMany, ea_TooMany, spc, tkc, em_TooMany⟩
              · rw [eX_TooMany]; exact kit_ref gd_NoPot gt_NoPot gs_NoPot ie_NoPot_tooMany
            · cases hc
      isE_NoState := by
            intro c b hc
            unfold isE_NoState at hc
            split at hc
            · cases hc; refine ⟨?_, ?_⟩
              · rw [eX_BadRow]; exact ⟨eg_BadRow, ek_BadRow, es_BadRow, ed_BadRow, ea_BadRow, spc, tkc, em_BadRow⟩
              · rw [eX_BadRow]; exact kit_ref gd_NoState gt_NoState gs_NoState ie_NoState_badRow
            · cases hc; refine ⟨?_, ?_⟩
              · rw [eX_BadPot]; exact ⟨eg_BadPot, ek_BadPot, es_BadPot, ed_BadPot, ea_BadPot, spc, tkc, em_BadPot⟩
              · rw [eX_BadPot]; exact kit_ref gd_NoState gt_NoState gs_NoState ie_NoState_badPot
            · cases hc; refine ⟨?_, ?_⟩
              · rw [eX_TooMany]; exact ⟨eg_TooMany, ek_TooMany, es_TooMany, ed_TooMany, ea_TooMany, spc, tkc, em_TooMany⟩
              · rw [eX_TooMany]; exact kit_ref gd_NoState gt_NoState gs_NoState ie_NoState_tooMany
            · cases hc
      isE_TooMany := by
            intro c b hc
            unfold isE_TooMany at hc
            split at hc
            · cases hc; refine ⟨?_, ?_⟩
              · rw [eX_BadRow]; exact ⟨eg_BadRow, ek_BadRow, es_BadRow, ed_BadRow, ea_BadRow, spc, tkc, em_BadRow⟩
              · rw [eX_BadRow]; exact kit_ref gd_TooMany gt_TooMany gs_TooMany ie_TooMany_badRow
            · cases hc; refine ⟨?_, ?_⟩
              · rw [eX_BadPot]; exact ⟨eg_BadPot, ek_BadPot, es_BadPot, ed_BadPot, ea_BadPot, spc, tkc, em_BadPot⟩
              · rw [eX_BadPot]; exact kit_ref gd_TooMany gt_TooMany gs_TooMany ie_TooMany_badPot
            · cases hc; refine ⟨?_, ?_⟩
              · rw [eX_TooMany]; exact ⟨eg_TooMany, ek_TooMany, es_TooMany, ed_TooMany, ea_TooMany, spc, tkc, em_TooMany⟩
              · rw [eX_TooMany]; exact kit_ref gd_TooMany gt_TooMany gs_TooMany ie_TooMany_tooMany
            · cases hc
      isE_ValueError := by
            intro c b hc
            unfold isE_ValueError at hc
            split at hc
            · cases hc; refine ⟨?_, ?_⟩
              · rw [eX_BadRow]; exact ⟨eg_BadRow, ek_BadRow, es_BadRow, ed_BadRow, ea_BadRow, spc, tkc, em_BadRow⟩
              · rw [eX_BadRow]; exact kit_ve ie_ValueError_badRow
            · cases hc; refine ⟨?_, ?_⟩
              · rw [eX_BadPot]; exact ⟨eg_BadPot, ek_BadPot, es_BadPot, ed_BadPot, ea_BadPot, spc, tkc, em_BadPot⟩
              · rw [eX_BadPot]; exact kit_ve ie_ValueError_badPot
            · cases hc; refine ⟨?_, ?_⟩
              · rw [eX_TooMany]; exact ⟨eg_TooMany, ek_TooMany, es_TooMany, ed_TooMany, ea_TooMany, spc, tkc, em_TooMany⟩
              · rw [eX_TooMany]; exact kit_ve ie_ValueError_tooMany
            · cases hc
      ct_BadPot := by
            intro c b hc
            unfold ct_BadPot at hc
            split at hc
            · cases hc; rw [eX_BadRow]; exact PySem.W.exm_ref gb_BadPot gd_BadPot gt_BadPot ct_BadPot_badRow
            · cases hc; rw [eX_BadPot]; exact PySem.W.exm_ref gb_BadPot gd_BadPot gt_BadPot ct_BadPot_badPot
            · cases hc; rw [eX_TooMany]; exact PySem.W.exm_ref gb_BadPot gd_BadPot gt_BadPot ct_BadPot_tooMany
            · cases hc
      ct_GardenError := by
            intro c b hc
            unfold ct_GardenError at hc
            split at hc
            · cases hc; rw [eX_BadRow]; exact PySem.W.exm_ref gb_GardenError gd_GardenError gt_GardenError ct_GardenError_badRow
            · cases hc; rw [eX_BadPot]; exact PySem.W.exm_ref gb_GardenError gd_GardenError gt_GardenError ct_GardenError_badPot
            · cases hc; rw [eX_TooMany]; exact PySem.W.exm_ref gb_GardenError gd_GardenError gt_GardenError ct_GardenError_tooMany
            · cases hc
      ct_TooMany := by
            intro c b hc
            unfold ct_TooMany at hc
            split at hc
            · cases hc; rw [eX_BadRow]; exact PySem.W.exm_ref gb_TooMany gd_TooMany gt_TooMany ct_TooMany_badRow
            · cases hc; rw [eX_BadPot]; exact PySem.W.exm_ref gb_TooMany gd_TooMany gt_TooMany ct_TooMany_badPot
            · cases hc; rw [eX_TooMany]; exact PySem.W.exm_ref gb_TooMany gd_TooMany gt_TooMany ct_TooMany_tooMany
            · cases hc
      x_BadPot := by
            constructor <;> rw [eX_BadPot]
            · exact PySem.W.mg_of X G aX_BadPot
            · exact xe_BadPot
            · exact xk_BadPot
            · exact xs_BadPot
            · exact xt_BadPot
      x_NoPot := by
            constructor <;> rw [eX_NoPot]
            · exact PySem.W.mg_of X G aX_NoPot
            · exact xe_NoPot
            · exact xk_NoPot
            · exact xs_NoPot
            · exact xt_NoPot
      x_NoState := by
            constructor <;> rw [eX_NoState]
            · exact PySem.W.mg_of X G aX_NoState
            · exact xe_NoState
            · exact xk_NoState
            · exact xs_NoState
            · exact xt_NoState
      x_TooMany := by
            constructor <;> rw [eX_TooMany]
            · exact PySem.W.mg_of X G aX_TooMany
            · exact xe_TooMany
            · exact xk_TooMany
            · exact xs_TooMany
            · exact xt_TooMany
      xd_BadRow := by
            constructor
            · rw [eX_BadRow]; exact ⟨eg_BadRow, ek_BadRow, es_BadRow, ed_BadRow⟩
            · rw [eX_BadRow]; exact xno_BadRow }
  have F_law_bad_head := fun_mk (st := s_law_bad_head) l_law_bad_head c_law_bad_head k_law_bad_head
  have bn_law_bad_head := F_law_bad_head.binds (ps := ["_law_way"]) fun _ _ _ _ _ _ us hl => match us, hl with | [_], _ => rfl
  have ok_law_bad_head := ok_law_bad_head (P := l.prog) (w := w) (base := base) (A := A) F_law_bad_head T 
  have F_law_bad_pot := fun_mk (st := s_law_bad_pot) l_law_bad_pot c_law_bad_pot k_law_bad_pot
  have bn_law_bad_pot := F_law_bad_pot.binds (ps := ["_law_way"]) fun _ _ _ _ _ _ us hl => match us, hl with | [_], _ => rfl
  have ok_law_bad_pot := ok_law_bad_pot (P := l.prog) (w := w) (base := base) (A := A) F_law_bad_pot T 
  have F_law_cell_at := fun_mk (st := s_law_cell_at) l_law_cell_at c_law_cell_at k_law_cell_at
  have bn_law_cell_at := F_law_cell_at.binds (ps := ["_law_script", "_law_k"]) fun _ _ _ _ _ _ us hl => match us, hl with | [_, _], _ => rfl
  have ok_law_cell_at := ok_law_cell_at (P := l.prog) (w := w) (base := base) (A := A) F_law_cell_at T 
  have F_law_draw := fun_mk (st := s_law_draw) l_law_draw c_law_draw k_law_draw
  have bn_law_draw := F_law_draw.binds (ps := ["_law_cell", "_law_k", "_law_many"]) fun _ _ _ _ _ _ us hl => match us, hl with | [_, _, _], _ => rfl
  have ok_law_draw := ok_law_draw (P := l.prog) (w := w) (base := base) (A := A) F_law_draw T 
  have F_law_sorts := fun_mk (st := s_law_sorts) l_law_sorts c_law_sorts k_law_sorts
  have bn_law_sorts := F_law_sorts.binds (ps := ["_law_error"]) fun _ _ _ _ _ _ us hl => match us, hl with | [_], _ => rfl
  have ok_law_sorts := ok_law_sorts (P := l.prog) (w := w) (base := base) (A := A) F_law_sorts T 
  have F_BadRow_init := fun_mk (st := s_BadRow_init) l_BadRow_init c_BadRow_init k_BadRow_init
  have bn_BadRow_init := F_BadRow_init.binds (ps := ["self", "row"]) fun _ _ _ _ _ _ us hl => match us, hl with | [_, _], _ => rfl
  have ok_BadRow_init := ok_BadRow_init (P := l.prog) (w := w) (base := base) (C := XBadRow) F_BadRow_init (PySem.W.mg_of X G aX_GardenError) ⟨rdx_GardenError, gax_GardenError⟩ cvx_GardenError
  have okH_BadRow_init := okH_BadRow_init (P := l.prog) (w := w) (base := base) (C := XBadRow) F_BadRow_init (PySem.W.mg_of X G aX_GardenError) ⟨rdx_GardenError, gax_GardenError⟩ cvx_GardenError
  have F_Garden_size := fun_mk (st := s_Garden_size) l_Garden_size c_Garden_size k_Garden_size
  have bn_Garden_size := F_Garden_size.binds (ps := ["self"]) fun _ _ _ _ _ _ us hl => match us, hl with | [_], _ => rfl
  have ok_Garden_size := ok_Garden_size (P := l.prog) (w := w) (base := base) (A := A) F_Garden_size T 
  have F_is_whole := fun_mk (st := s_is_whole) l_is_whole c_is_whole k_is_whole
  have bn_is_whole := F_is_whole.binds (ps := ["number"]) fun _ _ _ _ _ _ us hl => match us, hl with | [_], _ => rfl
  have ok_is_whole := ok_is_whole (P := l.prog) (w := w) (base := base) (A := A) F_is_whole T 
  have c_is_whole : Cal l.prog w K mg base A 1 "is_whole" 1 m_is_whole [] := ⟨_, _, _, _, _, _, Nat.le_refl _, ok_is_whole, PySem.W.mg_of X G a_is_whole, k_is_whole, bn_is_whole, .nil, fun _ => .nil⟩
  have F_within := fun_mk (st := s_within) l_within c_within k_within
  have bn_within := F_within.binds (ps := ["number", "low", "high"]) fun _ _ _ _ _ _ us hl => match us, hl with | [_, _, _], _ => rfl
  have ok_within := ok_within (P := l.prog) (w := w) (base := base) (A := A) F_within T c_is_whole
  have c_within : Cal l.prog w K mg base A 2 "within" 3 m_within [] := ⟨_, _, _, _, _, _, Nat.le_refl _, ok_within, PySem.W.mg_of X G a_within, k_within, bn_within, .nil, fun _ => .nil⟩
  have mt_size : ∀ c m, tb_size c = some m → MtD l.prog w K mg base A 1 c "size" 1 m := by
    intro c m hm; cases c
    · cases hm
    · cases hm
    · cases hm; exact ⟨cl_Garden, ⟨_, _, _, _, by decide, by rw [eC_Garden]; exact ⟨a_Garden_size, i_Garden_size, k_Garden_size⟩, ok_Garden_size, bn_Garden_size⟩, fun vs => zipNo (by decide)⟩
    · cases hm
  have F_Garden_init : FunD K "__init__" "Garden.__init__" (defArgs s_Garden_init) (defBody s_Garden_init) (defScope s_Garden_init) [V.int 1, V.int 1, V.int 0] [] f_Garden_init _ := ⟨⟨_, _, _, _, _, _, _, _, _, _, rfl, l_Garden_init, c_Garden_init, .inr ⟨by simp, T_Garden_init, _, _, _, rfl, t_Garden_init, rfl, .cons ⟨_, rfl⟩ (.cons ⟨_, rfl⟩ (.cons ⟨_, rfl⟩ (.nil)))⟩, .inl rfl⟩, k_Garden_init⟩
  have ok_Garden_init_garden := ok_Garden_init (P := l.prog) (w := w) (base := base) (C := A.cl .garden) F_Garden_init T rfl (by rw [← eA]; rfl) cl_Garden nn_Garden c_is_whole c_within mt_size
  have F_number_in := fun_mk (st := s_number_in) l_number_in c_number_in k_number_in
  have bn_number_in := F_number_in.binds (ps := ["text"]) fun _ _ _ _ _ _ us hl => match us, hl with | [_], _ => rfl
  have ok_number_in := ok_number_in (P := l.prog) (w := w) (base := base) (A := A) F_number_in T 
  have c_number_in : Cal l.prog w K mg base A 1 "number_in" 1 m_number_in [] := ⟨_, _, _, _, _, _, Nat.le_refl _, ok_number_in, PySem.W.mg_of X G a_number_in, k_number_in, bn_number_in, .nil, fun _ => .nil⟩
  have F_head_in := fun_mk (st := s_head_in) l_head_in c_head_in k_head_in
  have bn_head_in := F_head_in.binds (ps := ["words"]) fun _ _ _ _ _ _ us hl => match us, hl with | [_], _ => rfl
  have ok_head_in := ok_head_in (P := l.prog) (w := w) (base := base) (A := A) F_head_in T c_number_in
  have F_is_name := fun_mk (st := s_is_name) l_is_name c_is_name k_is_name
  have bn_is_name := F_is_name.binds (ps := ["name"]) fun _ _ _ _ _ _ us hl => match us, hl with | [_], _ => rfl
  have ok_is_name := ok_is_name (P := l.prog) (w := w) (base := base) (A := A) F_is_name T 
  have c_is_name : Cal l.prog w K mg base A 1 "is_name" 1 m_is_name [] := ⟨_, _, _, _, _, _, Nat.le_refl _, ok_is_name, PySem.W.mg_of X G a_is_name, k_is_name, bn_is_name, .nil, fun _ => .nil⟩
  have F_Pot_init := fun_mk (st := s_Pot_init) l_Pot_init c_Pot_init k_Pot_init
  have bn_Pot_init := F_Pot_init.binds (ps := ["self", "name", "gap"]) fun _ _ _ _ _ _ us hl => match us, hl with | [_, _, _], _ => rfl
  have ok_Pot_init_pot := ok_Pot_init (P := l.prog) (w := w) (base := base) (C := A.cl .pot) F_Pot_init T cl_Pot nn_Pot c_is_name c_within
  have ok_Pot_init_cactus := ok_Pot_init (P := l.prog) (w := w) (base := base) (C := A.cl .cactus) F_Pot_init T cl_Cactus (fun n hn => nn_Cactus n (by revert hn; simp only [Cl.names, List.mem_cons, List.not_mem_nil, or_false]; intro hn; rcases hn with rfl | rfl <;> simp)) c_is_name c_within
  have su_Pot : Sup l.prog w K mg base A 3 "Pot" (A.cl .cactus) .pot 2 mi_Pot := ⟨_, _, _, _, _, Nat.le_refl _, by rw [eC_Pot]; exact PySem.W.mg_of X G aC_Pot, by rw [eC_Pot]; exact ⟨rd_Pot, ga_Pot⟩, by rw [eC_Pot]; exact ⟨cv_Pot, rfl⟩, k_Pot_init, ok_Pot_init_cactus, bn_Pot_init⟩
  have F_Cactus_init := fun_mk (st := s_Cactus_init) l_Cactus_init c_Cactus_init k_Cactus_init
  have bn_Cactus_init := F_Cactus_init.binds (ps := ["self", "name", "gap", "rest"]) fun _ _ _ _ _ _ us hl => match us, hl with | [_, _, _, _], _ => rfl
  have ok_Cactus_init_cactus := ok_Cactus_init (P := l.prog) (w := w) (base := base) (C := A.cl .cactus) F_Cactus_init T cl_Cactus nn_Cactus su_Pot c_within
  have mk_Cactus : Mak l.prog w K mg base A 6 "Cactus" 3 .cactus mi_Cactus [] := ⟨_, _, _, _, _, _, Nat.le_refl _, by rw [← eA]; rfl, by rw [eC_Cactus]; exact ⟨mks_Cactus, a_Cactus_init, i_Cactus_init, kc_Cactus⟩, ok_Cactus_init_cactus, by rw [eC_Cactus]; exact PySem.W.mg_of X G aC_Cactus, bn_Cactus_init, .nil, fun _ => .nil⟩
  have mk_Pot : Mak l.prog w K mg base A 4 "Pot" 2 .pot mi_Pot [] := ⟨_, _, _, _, _, _, Nat.le_refl _, by rw [← eA]; rfl, by rw [eC_Pot]; exact ⟨mks_Pot, a_Pot_init, i_Pot_init, kc_Pot⟩, ok_Pot_init_pot, by rw [eC_Pot]; exact PySem.W.mg_of X G aC_Pot, bn_Pot_init, .nil, fun _ => .nil⟩
  have F_pot_in := fun_mk (st := s_pot_in) l_pot_in c_pot_in k_pot_in
  have bn_pot_in := F_pot_in.binds (ps := ["words"]) fun _ _ _ _ _ _ us hl => match us, hl with | [_], _ => rfl
  have ok_pot_in := ok_pot_in (P := l.prog) (w := w) (base := base) (A := A) F_pot_in T c_number_in mk_Cactus mk_Pot
  have F_words_of := fun_mk (st := s_words_of) l_words_of c_words_of k_words_of
  have bn_words_of := F_words_of.binds (ps := ["row"]) fun _ _ _ _ _ _ us hl => match us, hl with | [_], _ => rfl
  have ok_words_of := ok_words_of (P := l.prog) (w := w) (base := base) (A := A) F_words_of T 
  have c_head_in : Cal l.prog w K mg base A 2 "head_in" 1 m_head_in [] := ⟨_, _, _, _, _, _, Nat.le_refl _, ok_head_in, PySem.W.mg_of X G a_head_in, k_head_in, bn_head_in, .nil, fun _ => .nil⟩
  have c_pot_in : Cal l.prog w K mg base A 7 "pot_in" 1 m_pot_in [] := ⟨_, _, _, _, _, _, Nat.le_refl _, ok_pot_in, PySem.W.mg_of X G a_pot_in, k_pot_in, bn_pot_in, .nil, fun _ => .nil⟩
  have c_words_of : Cal l.prog w K mg base A 1 "words_of" 1 m_words_of [] := ⟨_, _, _, _, _, _, Nat.le_refl _, ok_words_of, PySem.W.mg_of X G a_words_of, k_words_of, bn_words_of, .nil, fun _ => .nil⟩
  obtain ⟨ds_mk_Garden, hv_mk_Garden, hb_mk_Garden⟩ := F_Garden_init.binds1 (ps := ["self", "pots", "cans", "week", "closed"]) 5 3 (by simp) (by simp) (fun T kV dc pm an cd ct us its hu hi => match us, its, hu, hi with | [_, _, _, _, _], [_, _, _], _, _ => ⟨_, rfl, rfl⟩)
  have mk_Garden : Mak l.prog w K mg base A 4 "Garden" 4 .garden mi_Garden [] := ⟨_, _, _, _, _, _, Nat.le_refl _, by rw [← eA]; rfl, by rw [eC_Garden]; exact ⟨mks_Garden, a_Garden_init, i_Garden_init, kc_Garden⟩, ok_Garden_init_garden, by rw [eC_Garden]; exact PySem.W.mg_of X G aC_Garden, hb_mk_Garden, hv_mk_Garden, fun _ => .nil⟩
  have xf_BadRow : XclF l.prog w K mg base A 2 "BadRow" .badRow "row" := ⟨_, _, _, _, Nat.le_refl _, by rw [eX_BadRow]; exact oex_mk xo_BadRow xsa_BadRow xsb_BadRow xty_BadRow xkp_BadRow, by rw [eX_BadRow]; exact xno_BadRow, by rw [eX_BadRow]; exact a_BadRow_init, i_BadRow_init, by rw [eX_BadRow]; exact ok_BadRow_init, bn_BadRow_init, by rw [eX_BadRow]; exact PySem.W.mg_of X G aX_BadRow⟩
  have xh_BadRow : XclH l.prog w K mg base A 2 "BadRow" .badRow "row" := ⟨_, _, _, _, Nat.le_refl _, by rw [eX_BadRow]; exact oex_mk xo_BadRow xsa_BadRow xsb_BadRow xty_BadRow xkp_BadRow, by rw [eX_BadRow]; exact xno_BadRow, by rw [eX_BadRow]; exact a_BadRow_init, i_BadRow_init, by rw [eX_BadRow]; exact okH_BadRow_init, bn_BadRow_init, by rw [eX_BadRow]; exact PySem.W.mg_of X G aX_BadRow⟩
  have F_read := fun_mk (st := s_read) l_read c_read k_read
  have bn_read := F_read.binds (ps := ["text"]) fun _ _ _ _ _ _ us hl => match us, hl with | [_], _ => rfl
  have ok_read := ok_read (P := l.prog) (w := w) (base := base) (A := A) F_read T c_head_in c_pot_in c_words_of mk_Garden xf_BadRow xh_BadRow
  have ce_law_sorts : CalE l.prog w K mg base A 1 "_law_sorts" m_law_sorts := ⟨_, _, _, _, Nat.le_refl _, ok_law_sorts, PySem.W.mg_of X G a_law_sorts, k_law_sorts, bn_law_sorts⟩
  have cz_read : CalZ l.prog w K mg base A 8 "read" 1 m_read := ⟨_, _, _, _, Nat.le_refl _, ok_read, PySem.W.mg_of X G a_read, k_read, bn_read⟩
  have F_law_refused := fun_mk (st := s_law_refused) l_law_refused c_law_refused k_law_refused
  have bn_law_refused := F_law_refused.binds (ps := ["_law_text"]) fun _ _ _ _ _ _ us hl => match us, hl with | [_], _ => rfl
  have ok_law_refused := ok_law_refused (P := l.prog) (w := w) (base := base) (A := A) F_law_refused T ce_law_sorts cz_read
  have c_law_cell_at : Cal l.prog w K mg base A 1 "_law_cell_at" 2 m_law_cell_at [] := ⟨_, _, _, _, _, _, Nat.le_refl _, ok_law_cell_at, PySem.W.mg_of X G a_law_cell_at, k_law_cell_at, bn_law_cell_at, .nil, fun _ => .nil⟩
  have c_law_draw : Cal l.prog w K mg base A 1 "_law_draw" 3 m_law_draw [] := ⟨_, _, _, _, _, _, Nat.le_refl _, ok_law_draw, PySem.W.mg_of X G a_law_draw, k_law_draw, bn_law_draw, .nil, fun _ => .nil⟩
  have F_law_rows := fun_mk (st := s_law_rows) l_law_rows c_law_rows k_law_rows
  have bn_law_rows := F_law_rows.binds (ps := ["_law_script"]) fun _ _ _ _ _ _ us hl => match us, hl with | [_], _ => rfl
  have ok_law_rows := ok_law_rows (P := l.prog) (w := w) (base := base) (A := A) F_law_rows T c_law_cell_at c_law_draw
  have c_law_refused : Cal l.prog w K mg base A 9 "_law_refused" 1 m_law_refused [] := ⟨_, _, _, _, _, _, Nat.le_refl _, ok_law_refused, PySem.W.mg_of X G a_law_refused, k_law_refused, bn_law_refused, .nil, fun _ => .nil⟩
  have F_law_whole := fun_mk (st := s_law_whole) l_law_whole c_law_whole k_law_whole
  have bn_law_whole := F_law_whole.binds (ps := ["_law_script"]) fun _ _ _ _ _ _ us hl => match us, hl with | [_], _ => rfl
  have ok_law_whole := ok_law_whole (P := l.prog) (w := w) (base := base) (A := A) F_law_whole T c_law_cell_at c_law_refused
  have F_Cactus_words := fun_mk (st := s_Cactus_words) l_Cactus_words c_Cactus_words k_Cactus_words
  have bn_Cactus_words := F_Cactus_words.binds (ps := ["self"]) fun _ _ _ _ _ _ us hl => match us, hl with | [_], _ => rfl
  have ok_Cactus_words := ok_Cactus_words (P := l.prog) (w := w) (base := base) (A := A) F_Cactus_words T 
  have F_Pot_words := fun_mk (st := s_Pot_words) l_Pot_words c_Pot_words k_Pot_words
  have bn_Pot_words := F_Pot_words.binds (ps := ["self"]) fun _ _ _ _ _ _ us hl => match us, hl with | [_], _ => rfl
  have ok_Pot_words := ok_Pot_words (P := l.prog) (w := w) (base := base) (A := A) F_Pot_words T 
  have F_bits_of := fun_mk (st := s_bits_of) l_bits_of c_bits_of k_bits_of
  have bn_bits_of := F_bits_of.binds (ps := ["number"]) fun _ _ _ _ _ _ us hl => match us, hl with | [_], _ => rfl
  have ok_bits_of := ok_bits_of (P := l.prog) (w := w) (base := base) (A := A) F_bits_of T 
  have c_bits_of : Cal l.prog w K mg base A 1 "bits_of" 1 m_bits_of [] := ⟨_, _, _, _, _, _, Nat.le_refl _, ok_bits_of, PySem.W.mg_of X G a_bits_of, k_bits_of, bn_bits_of, .nil, fun _ => .nil⟩
  have mt_words : ∀ c m, tb_words c = some m → MtD l.prog w K mg base A 1 c "words" 1 m := by
    intro c m hm; cases c
    · cases hm; exact ⟨cl_Pot, ⟨_, _, _, _, by decide, by rw [eC_Pot]; exact ⟨a_Pot_words, i_Pot_words, k_Pot_words⟩, ok_Pot_words, bn_Pot_words⟩, fun vs => zipNo (by decide)⟩
    · cases hm; exact ⟨cl_Cactus, ⟨_, _, _, _, by decide, by rw [eC_Cactus]; exact ⟨a_Cactus_words, i_Cactus_words, k_Cactus_words⟩, ok_Cactus_words, bn_Cactus_words⟩, fun vs => zipNo (by decide)⟩
    · cases hm
    · cases hm
  have F_written := fun_mk (st := s_written) l_written c_written k_written
  have bn_written := F_written.binds (ps := ["garden"]) fun _ _ _ _ _ _ us hl => match us, hl with | [_], _ => rfl
  have ok_written := ok_written (P := l.prog) (w := w) (base := base) (A := A) F_written T c_bits_of mt_words
  have c_law_bad_head : Cal l.prog w K mg base A 1 "_law_bad_head" 1 m_law_bad_head [] := ⟨_, _, _, _, _, _, Nat.le_refl _, ok_law_bad_head, PySem.W.mg_of X G a_law_bad_head, k_law_bad_head, bn_law_bad_head, .nil, fun _ => .nil⟩
  have c_law_bad_pot : Cal l.prog w K mg base A 1 "_law_bad_pot" 1 m_law_bad_pot [] := ⟨_, _, _, _, _, _, Nat.le_refl _, ok_law_bad_pot, PySem.W.mg_of X G a_law_bad_pot, k_law_bad_pot, bn_law_bad_pot, .nil, fun _ => .nil⟩
  have c_law_rows : Cal l.prog w K mg base A 2 "_law_rows" 1 m_law_rows [] := ⟨_, _, _, _, _, _, Nat.le_refl _, ok_law_rows, PySem.W.mg_of X G a_law_rows, k_law_rows, bn_law_rows, .nil, fun _ => .nil⟩
  have c_law_whole : Cal l.prog w K mg base A 10 "_law_whole" 1 m_law_whole [] := ⟨_, _, _, _, _, _, Nat.le_refl _, ok_law_whole, PySem.W.mg_of X G a_law_whole, k_law_whole, bn_law_whole, .nil, fun _ => .nil⟩
  have c_written : Cal l.prog w K mg base A 2 "written" 1 m_written [] := ⟨_, _, _, _, _, _, Nat.le_refl _, ok_written, PySem.W.mg_of X G a_written, k_written, bn_written, .nil, fun _ => .nil⟩
  have F_law := fun_mk (st := s_law) l_law c_law k_law
  have bn_law := F_law.binds (ps := ["_law_script"]) fun _ _ _ _ _ _ us hl => match us, hl with | [_], _ => rfl
  have ok_law := ok_law (P := l.prog) (w := w) (base := base) (A := A) F_law T c_law_bad_head c_law_bad_pot c_law_cell_at c_law_draw c_law_refused c_law_rows c_law_whole c_written cz_read
  refine ok_law.imp fun vs H Q E hs => ?_
  obtain ⟨a, ns, rfl, sq, hn, hq⟩ := hs
  exact ⟨H, [.scr ns], _, Ex.refl H, .cons (.scr sq) .nil, rfl, plain ns hn, fun F' H' v G r => by cases r; exact hq _ rfl H'⟩
theorem walk {l : PySem.W.OpenLaw} {q : Program} {loose : List Str} {XP : (Str → Option Value) → Heap → Prop} {YP : World → Heap → Prop} {d : DefRec} {K : Params → PySem.W.Frag} (hn : l.most = some 63) (hdf : d.params.defaults = [])
    (hY : ∀ (w : World) (h : Heap), YP w h → (K w.params).In h)
    (F : ∀ (w : World) (mg : Str → Option Value) (fa : Addr) (h : Heap), (K w.params).In h → h.Ns mainGlobals mg → mg d.name = some (.ref fa) →
      ∃ fd : FuncData, (∀ (s : Shared) (u : Value), BindsTo s fd ⟨[u], []⟩ [("_law_script", u)]) ∧ ∀ base : Heap, (K w.params).In base → base.Ns mainGlobals mg → FnG l.prog w (K w.params) mg base (L2N.CX l.prog w) 11 fa fd ["_law_script"] (spLaw (K w.params))) :
    PySem.W.WalkO q loose XP YP l.row.toRowW d [] (fun f vs => PySem.call f vs) :=
  walk_gd (n := 63) (k := 11) (x := "_law_script") (C := fun w => L2N.CX l.prog w) (sp := fun w => spLaw (K w.params)) hn (by decide) hdf ⟨by decide, by decide, by decide⟩ hY F (fun _ _ a ns hl hS => ⟨a, ns, rfl, hS, hl, fun v hv _ => hv⟩) fun _ _ _ _ _ z => no_cx z
end K09
open PySem PySem.W PyProof.Rows
set_option maxRecDepth 100000 in
set_option maxHeartbeats 0 in
theorem PySem.Challenge.cw_thirstwise_k09_texts_misread_holds : PySem.Challenge.rw_thirstwise_k09_texts_misread.Holds := by
  w_on; o_law; k_head; (case hw => w_witness2)
  k_fill
  refine K09.walk (l := PySem.Challenge.rw_thirstwise_k09_texts_misread) rfl rfl (fun w h Y => PySem.W.kIn_of Y) ?F
  case F =>
    intro w mg fa h KX G hmg
    refine' K09.all_mk K09.plain KX G hmg ?aC_Pot ?pg_Pot ?hd_Pot ?po_Pot ?sa_Pot ?ca_Pot ?mr_Pot ?ty_Pot ?ss_Pot ?kc_Pot ?no_Pot_name ?no_Pot_gap ?mks_Pot ?aC_Cactus ?pg_Cactus ?hd_Cactus ?po_Cactus ?sa_Cactus ?ca_Cactus ?mr_Cactus ?ty_Cactus ?ss_Cactus ?kc_Cactus ?no_Cactus_name ?no_Cactus_gap ?no_Cactus_rest ?mks_Cactus ?aC_Garden ?pg_Garden ?hd_Garden ?po_Garden ?sa_Garden ?ca_Garden ?mr_Garden ?ty_Garden ?ss_Garden ?kc_Garden ?no_Garden_pots ?no_Garden_cans ?no_Garden_week ?no_Garden_closed ?no_Garden_order ?mks_Garden ?spc ?tkc ?aX_BadPot ?xe_BadPot ?xk_BadPot ?xs_BadPot ?xt_BadPot ?eg_BadPot ?ek_BadPot ?es_BadPot ?ed_BadPot ?ea_BadPot ?em_BadPot ?aX_BadRow ?eg_BadRow ?ek_BadRow ?es_BadRow ?ed_BadRow ?ea_BadRow ?em_BadRow ?aX_NoPot ?xe_NoPot ?xk_NoPot ?xs_NoPot ?xt_NoPot ?aX_NoState ?xe_NoState ?xk_NoState ?xs_NoState ?xt_NoState ?aX_TooMany ?xe_TooMany ?xk_TooMany ?xs_TooMany ?xt_TooMany ?eg_TooMany ?ek_TooMany ?es_TooMany ?ed_TooMany ?ea_TooMany ?em_TooMany ?xo_BadRow ?xsa_BadRow ?xsb_BadRow ?xty_BadRow ?xkp_BadRow ?xno_BadRow ?aX_BadDay ?aX_GardenError ?gd_BadDay ?gt_BadDay ?gs_BadDay ?gb_BadDay ?gd_BadPot ?gt_BadPot ?gs_BadPot ?gb_BadPot ?gd_BadRow ?gt_BadRow ?gs_BadRow ?gb_BadRow ?gd_GardenError ?gt_GardenError ?gs_GardenError ?gb_GardenError ?gd_NoPot ?gt_NoPot ?gs_NoPot ?gb_NoPot ?gd_NoState ?gt_NoState ?gs_NoState ?gb_NoState ?gd_TooMany ?gt_TooMany ?gs_TooMany ?gb_TooMany ?ie_BadDay_badRow ?ie_BadDay_badPot ?ie_BadDay_tooMany ?ie_BadPot_badRow ?ie_BadPot_badPot ?ie_BadPot_tooMany ?ie_BadRow_badRow ?ie_BadRow_badPot ?ie_BadRow_tooMany ?ie_NoPot_badRow ?ie_NoPot_badPot ?ie_NoPot_tooMany ?ie_NoState_badRow ?ie_NoState_badPot ?ie_NoState_tooMany ?ie_TooMany_badRow ?ie_TooMany_badPot ?ie_TooMany_tooMany ?ie_ValueError_badRow ?ie_ValueError_badPot ?ie_ValueError_tooMany ?ct_BadPot_badRow ?ct_BadPot_badPot ?ct_BadPot_tooMany ?ct_GardenError_badRow ?ct_GardenError_badPot ?ct_GardenError_tooMany ?ct_TooMany_badRow ?ct_TooMany_badPot ?ct_TooMany_tooMany ?b_ValueError ?b_all ?b_bool ?b_divmod ?b_int ?b_isinstance ?b_len ?b_list ?b_range ?b_str ?b_tuple ?g_FIGURES ?g_LETTERS ?g_LONGEST ?g_LONGEST_WEEK ?g_MOST_POTS ?g_MOST_STATES ?is_Pot_o_cactus ?is_Pot_o_pot ?rdx_GardenError ?gax_GardenError ?cvx_GardenError ?a_law_bad_head ?l_law_bad_head ?c_law_bad_head ?k_law_bad_head ?a_law_bad_pot ?l_law_bad_pot ?c_law_bad_pot ?k_law_bad_pot ?a_law_cell_at ?l_law_cell_at ?c_law_cell_at ?k_law_cell_at ?a_law_draw ?l_law_draw ?c_law_draw ?k_law_draw ?a_law_sorts ?l_law_sorts ?c_law_sorts ?k_law_sorts ?a_BadRow_init ?i_BadRow_init ?l_BadRow_init ?c_BadRow_init ?k_BadRow_init ?a_Garden_size ?i_Garden_size ?l_Garden_size ?c_Garden_size ?k_Garden_size ?a_is_whole ?l_is_whole ?c_is_whole ?k_is_whole ?a_within ?l_within ?c_within ?k_within ?a_Garden_init ?i_Garden_init ?l_Garden_init ?c_Garden_init ?k_Garden_init ?t_Garden_init ?a_number_in ?l_number_in ?c_number_in ?k_number_in ?a_head_in ?l_head_in ?c_head_in ?k_head_in ?a_is_name ?l_is_name ?c_is_name ?k_is_name ?a_Pot_init ?i_Pot_init ?l_Pot_init ?c_Pot_init ?k_Pot_init ?a_Cactus_init ?i_Cactus_init ?l_Cactus_init ?c_Cactus_init ?k_Cactus_init ?a_pot_in ?l_pot_in ?c_pot_in ?k_pot_in ?a_words_of ?l_words_of ?c_words_of ?k_words_of ?a_read ?l_read ?c_read ?k_read ?a_law_refused ?l_law_refused ?c_law_refused ?k_law_refused ?a_law_rows ?l_law_rows ?c_law_rows ?k_law_rows ?a_law_whole ?l_law_whole ?c_law_whole ?k_law_whole ?a_Cactus_words ?i_Cactus_words ?l_Cactus_words ?c_Cactus_words ?k_Cactus_words ?a_Pot_words ?i_Pot_words ?l_Pot_words ?c_Pot_words ?k_Pot_words ?a_bits_of ?l_bits_of ?c_bits_of ?k_bits_of ?a_written ?l_written ?c_written ?k_written ?a_law ?l_law ?c_law ?k_law ?rd_Pot ?ga_Pot ?cv_Pot
    (case aC_Pot => k_is)
    (case pg_Pot => k_is)
    (case hd_Pot => k_is)
    (case po_Pot => k_is)
    (case sa_Pot => k_is)
    (case ca_Pot => k_is)
    (case mr_Pot => k_is)
    (case ty_Pot => k_is)
    (case ss_Pot => k_is)
    (case kc_Pot => k_is)
    (case no_Pot_name => k_is)
    (case no_Pot_gap => k_is)
    (case mks_Pot => k_is)
    (case aC_Cactus => k_is)
    (case pg_Cactus => k_is)
    (case hd_Cactus => k_is)
    (case po_Cactus => k_is)
    (case sa_Cactus => k_is)
    (case ca_Cactus => k_is)
    (case mr_Cactus => k_is)
    (case ty_Cactus => k_is)
    (case ss_Cactus => k_is)
    (case kc_Cactus => k_is)
    (case no_Cactus_name => k_is)
    (case no_Cactus_gap => k_is)
    (case no_Cactus_rest => k_is)
    (case mks_Cactus => k_is)
    (case aC_Garden => k_is)
    (case pg_Garden => k_is)
    (case hd_Garden => k_is)
    (case po_Garden => k_is)
    (case sa_Garden => k_is)
    (case ca_Garden => k_is)
    (case mr_Garden => k_is)
    (case ty_Garden => k_is)
    (case ss_Garden => k_is)
    (case kc_Garden => k_is)
    (case no_Garden_pots => k_is)
    (case no_Garden_cans => k_is)
    (case no_Garden_week => k_is)
    (case no_Garden_closed => k_is)
    (case no_Garden_order => k_is)
    (case mks_Garden => k_is)
    (case spc => k_is)
    (case tkc => k_is)
    (case aX_BadPot => k_is)
    (case xe_BadPot => k_exc)
    (case xk_BadPot => k_is)
    (case xs_BadPot => k_is)
    (case xt_BadPot => k_is)
    (case eg_BadPot => k_is)
    (case ek_BadPot => k_is)
    (case es_BadPot => k_is)
    (case ed_BadPot => k_is)
    (case ea_BadPot => k_is)
    (case em_BadPot => k_is)
    (case aX_BadRow => k_is)
    (case eg_BadRow => k_is)
    (case ek_BadRow => k_is)
    (case es_BadRow => k_is)
    (case ed_BadRow => k_is)
    (case ea_BadRow => k_is)
    (case em_BadRow => k_is)
    (case aX_NoPot => k_is)
    (case xe_NoPot => k_exc)
    (case xk_NoPot => k_is)
    (case xs_NoPot => k_is)
    (case xt_NoPot => k_is)
    (case aX_NoState => k_is)
    (case xe_NoState => k_exc)
    (case xk_NoState => k_is)
    (case xs_NoState => k_is)
    (case xt_NoState => k_is)
    (case aX_TooMany => k_is)
    (case xe_TooMany => k_exc)
    (case xk_TooMany => k_is)
    (case xs_TooMany => k_is)
    (case xt_TooMany => k_is)
    (case eg_TooMany => k_is)
    (case ek_TooMany => k_is)
    (case es_TooMany => k_is)
    (case ed_TooMany => k_is)
    (case ea_TooMany => k_is)
    (case em_TooMany => k_is)
    (case xo_BadRow => kernel_rfl)
    (case xsa_BadRow => k_is)
    (case xsb_BadRow => k_is)
    (case xty_BadRow => k_is)
    (case xkp_BadRow => k_is)
    (case xno_BadRow => k_is)
    (case aX_BadDay => k_is)
    (case aX_GardenError => k_is)
    (case gd_BadDay => k_is)
    (case gt_BadDay => k_is)
    (case gs_BadDay => k_is)
    (case gb_BadDay => k_is)
    (case gd_BadPot => k_is)
    (case gt_BadPot => k_is)
    (case gs_BadPot => k_is)
    (case gb_BadPot => k_is)
    (case gd_BadRow => k_is)
    (case gt_BadRow => k_is)
    (case gs_BadRow => k_is)
    (case gb_BadRow => k_is)
    (case gd_GardenError => k_is)
    (case gt_GardenError => k_is)
    (case gs_GardenError => k_is)
    (case gb_GardenError => k_is)
    (case gd_NoPot => k_is)
    (case gt_NoPot => k_is)
    (case gs_NoPot => k_is)
    (case gb_NoPot => k_is)
    (case gd_NoState => k_is)
    (case gt_NoState => k_is)
    (case gs_NoState => k_is)
    (case gb_NoState => k_is)
    (case gd_TooMany => k_is)
    (case gt_TooMany => k_is)
    (case gs_TooMany => k_is)
    (case gb_TooMany => k_is)
    (case ie_BadDay_badRow => k_is)
    (case ie_BadDay_badPot => k_is)
    (case ie_BadDay_tooMany => k_is)
    (case ie_BadPot_badRow => k_is)
    (case ie_BadPot_badPot => k_is)
    (case ie_BadPot_tooMany => k_is)
    (case ie_BadRow_badRow => k_is)
    (case ie_BadRow_badPot => k_is)
    (case ie_BadRow_tooMany => k_is)
    (case ie_NoPot_badRow => k_is)
    (case ie_NoPot_badPot => k_is)
    (case ie_NoPot_tooMany => k_is)
    (case ie_NoState_badRow => k_is)
    (case ie_NoState_badPot => k_is)
    (case ie_NoState_tooMany => k_is)
    (case ie_TooMany_badRow => k_is)
    (case ie_TooMany_badPot => k_is)
    (case ie_TooMany_tooMany => k_is)
    (case ie_ValueError_badRow => k_is)
    (case ie_ValueError_badPot => k_is)
    (case ie_ValueError_tooMany => k_is)
    (case ct_BadPot_badRow => k_is)
    (case ct_BadPot_badPot => k_is)
    (case ct_BadPot_tooMany => k_is)
    (case ct_GardenError_badRow => k_is)
    (case ct_GardenError_badPot => k_is)
    (case ct_GardenError_tooMany => k_is)
    (case ct_TooMany_badRow => k_is)
    (case ct_TooMany_badPot => k_is)
    (case ct_TooMany_tooMany => k_is)
    (case b_ValueError => k_is)
    (case b_all => k_is)
    (case b_bool => k_is)
    (case b_divmod => k_is)
    (case b_int => k_is)
    (case b_isinstance => k_is)
    (case b_len => k_is)
    (case b_list => k_is)
    (case b_range => k_is)
    (case b_str => k_is)
    (case b_tuple => k_is)
    (case g_FIGURES => k_is)
    (case g_LETTERS => k_is)
    (case g_LONGEST => k_is)
    (case g_LONGEST_WEEK => k_is)
    (case g_MOST_POTS => k_is)
    (case g_MOST_STATES => k_is)
    (case is_Pot_o_cactus => k_is)
    (case is_Pot_o_pot => k_is)
    (case rdx_GardenError => k_is)
    (case gax_GardenError => k_is)
    (case cvx_GardenError => k_is)
    (case a_law_bad_head => k_is)
    (case l_law_bad_head => k_is)
    (case c_law_bad_head => k_is)
    (case k_law_bad_head => k_is)
    (case a_law_bad_pot => k_is)
    (case l_law_bad_pot => k_is)
    (case c_law_bad_pot => k_is)
    (case k_law_bad_pot => k_is)
    (case a_law_cell_at => k_is)
    (case l_law_cell_at => k_is)
    (case c_law_cell_at => k_is)
    (case k_law_cell_at => k_is)
    (case a_law_draw => k_is)
    (case l_law_draw => k_is)
    (case c_law_draw => k_is)
    (case k_law_draw => k_is)
    (case a_law_sorts => k_is)
    (case l_law_sorts => k_is)
    (case c_law_sorts => k_is)
    (case k_law_sorts => k_is)
    (case a_BadRow_init => k_is)
    (case i_BadRow_init => k_is)
    (case l_BadRow_init => k_is)
    (case c_BadRow_init => k_is)
    (case k_BadRow_init => k_is)
    (case a_Garden_size => k_is)
    (case i_Garden_size => k_is)
    (case l_Garden_size => k_is)
    (case c_Garden_size => k_is)
    (case k_Garden_size => k_is)
    (case a_is_whole => k_is)
    (case l_is_whole => k_is)
    (case c_is_whole => k_is)
    (case k_is_whole => k_is)
    (case a_within => k_is)
    (case l_within => k_is)
    (case c_within => k_is)
    (case k_within => k_is)
    (case a_Garden_init => k_is)
    (case i_Garden_init => k_is)
    (case l_Garden_init => k_is)
    (case c_Garden_init => k_is)
    (case k_Garden_init => k_is)
    (case t_Garden_init => k_is)
    (case a_number_in => k_is)
    (case l_number_in => k_is)
    (case c_number_in => k_is)
    (case k_number_in => k_is)
    (case a_head_in => k_is)
    (case l_head_in => k_is)
    (case c_head_in => k_is)
    (case k_head_in => k_is)
    (case a_is_name => k_is)
    (case l_is_name => k_is)
    (case c_is_name => k_is)
    (case k_is_name => k_is)
    (case a_Pot_init => k_is)
    (case i_Pot_init => k_is)
    (case l_Pot_init => k_is)
    (case c_Pot_init => k_is)
    (case k_Pot_init => k_is)
    (case a_Cactus_init => k_is)
    (case i_Cactus_init => k_is)
    (case l_Cactus_init => k_is)
    (case c_Cactus_init => k_is)
    (case k_Cactus_init => k_is)
    (case a_pot_in => k_is)
    (case l_pot_in => k_is)
    (case c_pot_in => k_is)
    (case k_pot_in => k_is)
    (case a_words_of => k_is)
    (case l_words_of => k_is)
    (case c_words_of => k_is)
    (case k_words_of => k_is)
    (case a_read => k_is)
    (case l_read => k_is)
    (case c_read => k_is)
    (case k_read => k_is)
    (case a_law_refused => k_is)
    (case l_law_refused => k_is)
    (case c_law_refused => k_is)
    (case k_law_refused => k_is)
    (case a_law_rows => k_is)
    (case l_law_rows => k_is)
    (case c_law_rows => k_is)
    (case k_law_rows => k_is)
    (case a_law_whole => k_is)
    (case l_law_whole => k_is)
    (case c_law_whole => k_is)
    (case k_law_whole => k_is)
    (case a_Cactus_words => k_is)
    (case i_Cactus_words => k_is)
    (case l_Cactus_words => k_is)
    (case c_Cactus_words => k_is)
    (case k_Cactus_words => k_is)
    (case a_Pot_words => k_is)
    (case i_Pot_words => k_is)
    (case l_Pot_words => k_is)
    (case c_Pot_words => k_is)
    (case k_Pot_words => k_is)
    (case a_bits_of => k_is)
    (case l_bits_of => k_is)
    (case c_bits_of => k_is)
    (case k_bits_of => k_is)
    (case a_written => k_is)
    (case l_written => k_is)
    (case c_written => k_is)
    (case k_written => k_is)
    (case a_law => k_is)
    (case l_law => k_is)
    (case c_law => k_is)
    (case k_law => k_is)
    (case rd_Pot => k_is)
    (case ga_Pot => k_is)
    (case cv_Pot => k_is)
