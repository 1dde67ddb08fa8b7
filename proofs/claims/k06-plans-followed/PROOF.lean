import PyProof.Rows.All
import Wide.All
import OpenK.AllK
import Wide.FinOn
import HandS.ForMost
import HandS.Exc
import HandS.TryOnly
import HandS.ExcOwn
import HandS.ExcCtx
import HandS.HotCalls
import HandS.WordsExc
import HandS.TupAny
import HandS.Deep
import HandS.IsInst
import HandS.Style
import HandS.StrMore
import HandS.Defaults
import HandS.ClsMeth
import HandS.WordsDict
import HandS.ExcIs
import PyProof.StrOps2
import PyProof.FitsStr
import PyProof.ReprRoads
import PyProof.ReprLen
import KE.KExcIs
import HandS.ExcInit
import HandS.ExcField
import PySem.Challenge.RW_thirstwise_k06_plans_followed
set_option Elab.async false
set_option linter.all false
set_option maxRecDepth 100000
set_option maxHeartbeats 4000000
/-! TwA: data over the hand layer: values as plain data, local lists owned, what an expression, a test, a statement comes to. -/
namespace Tw
open PySem PySem.Spec PyProof.Rows L2

inductive Cl where
  | pot | cactus | garden | lives
  deriving DecidableEq
def Cl.names : Cl → List Str
  | .pot => ["name", "gap"]
  | .cactus => ["name", "gap", "rest"]
  | .garden => ["pots", "cans", "week", "closed", "order"]
  | .lives => ["garden", "table"]
/-- data: what a value comes to -/
inductive D where
  | non | bl (b : Bool) | int (i : Int) | str (x : Str)
  | lst (xs : List D) | tup (xs : List D) | obj (c : Cl) (xs : List D)
  | scr (ns : List Int) | ord (ks : List (Str × Int))
inductive Xc where
  | badPot | badRow | tooMany | noState | noPot | badDay
  deriving DecidableEq
/-- a refusal -/
inductive Xn where
  | badPot | tooMany | noState | noPot | badRow (n : Int) | badDay (n : Int)
  deriving DecidableEq
def Xn.cl : Xn → Xc
  | .badPot => .badPot | .tooMany => .tooMany | .noState => .noState | .noPot => .noPot | .badRow _ => .badRow | .badDay _ => .badDay
/-- where the classes stand -/
structure Ad where
  cl : Cl → Addr
  xc : Xc → Addr
  has : Cl → Bool
def ordK (ks : List (Str × Int)) : List (Key × V) := ks.map fun p => (Sum.inr p.1, V.int p.2)

mutual
inductive Rep (K : PySem.W.Frag) (A : Ad) (H : Hp) : V → D → Prop
  | non : Rep K A H .non .non
  | bl (b : Bool) : Rep K A H (.bl b) (.bl b)
  | int (i : Int) : Rep K A H (.int i) (.int i)
  | str (x : Str) : Rep K A H (.str x) (.str x)
  | lst {a : Addr} {vs : List V} {ds : List D} : H a = some (.lst vs) → RepL K A H vs ds → Rep K A H (.ref a) (.lst ds)
  | tup {a : Addr} {vs : List V} {ds : List D} : H a = some (.tup vs) → RepL K A H vs ds → Rep K A H (.ref a) (.tup ds)
  | obj {a dx : Addr} {c : Cl} {vs : List V} {ds : List D} : A.has c = true → H a = some (.ins (A.cl c) dx (c.names.zip vs)) → vs.length = c.names.length → RepL K A H vs ds → Rep K A H (.ref a) (.obj c ds)
  | scr {a : Addr} {ns : List Int} : SqL K H a (ns.map V.int) → Rep K A H (.ref a) (.scr ns)
  | ord {a : Addr} {ks : List (Str × Int)} : H a = some (.dK (ordK ks)) → Rep K A H (.ref a) (.ord ks)
inductive RepL (K : PySem.W.Frag) (A : Ad) (H : Hp) : List V → List D → Prop
  | nil : RepL K A H [] []
  | cons {v : V} {vs : List V} {d : D} {ds : List D} : Rep K A H v d → RepL K A H vs ds → RepL K A H (v :: vs) (d :: ds)
end

/-- all that stood stands -/
def Ex (H H' : Hp) : Prop := ∀ a o, H a = some o → H' a = some o
theorem Ex.refl (H : Hp) : Ex H H := fun _ _ h => h
theorem Ex.trans {H H1 H2 : Hp} (a : Ex H H1) (b : Ex H1 H2) : Ex H H2 := fun x o h => b x o (a x o h)
theorem Ex.new {H : Hp} {p : Addr} {o : HO} (h : H p = none) : Ex H (upd H p o) := fun a u e => by
  rw [upd_ne (ne_of_none e h)]
  exact e
theorem Ex.free {H H' : Hp} (e : Ex H H') {p : Addr} (h : H' p = none) : H p = none := by
  cases h1 : H p with
  | none => rfl
  | some o =>
    rw [e p o h1] at h
    cases h
/-- beside what H knows, p may change -/
theorem Ex.mut {H H' : Hp} {p : Addr} {o : HO} (e : Ex H H') (h : H p = none) : Ex H (upd H' p o) := fun a u ha => by
  rw [upd_ne (ne_of_none ha h)]
  exact e a u ha
theorem Ex.rd {H H' : Hp} {a : Addr} {u : HO} (e : Ex H H') (h : Rd H a u) : Rd H' a u := by
  rcases h with h | ⟨o, h⟩
  · exact Or.inl (e a _ h)
  · exact Or.inr ⟨o, e a _ h⟩
theorem Ex.sqL {K : PySem.W.Frag} {H H' : Hp} {a : Addr} {xs : List V} (e : Ex H H') (h : SqL K H a xs) : SqL K H' a xs := by
  rcases h with h | h
  · exact Or.inl (e.rd h)
  · exact Or.inr h
theorem Ex.sqT {K : PySem.W.Frag} {H H' : Hp} {a : Addr} {xs : List V} (e : Ex H H') (h : SqT K H a xs) : SqT K H' a xs := by
  rcases h with h | h
  · exact Or.inl (e.rd h)
  · exact Or.inr h
section
variable {K : PySem.W.Frag} {A : Ad} {H H' : Hp}
mutual
theorem Rep.mono (e : Ex H H') : ∀ {v : V} {d : D}, Rep K A H v d → Rep K A H' v d
  | _, _, .non => .non
  | _, _, .bl b => .bl b
  | _, _, .int i => .int i
  | _, _, .str x => .str x
  | _, _, .lst h r => .lst (e _ _ h) (RepL.mono e r)
  | _, _, .tup h r => .tup (e _ _ h) (RepL.mono e r)
  | _, _, .obj g h l r => .obj g (e _ _ h) l (RepL.mono e r)
  | _, _, .scr h => .scr (e.sqL h)
  | _, _, .ord h => .ord (e _ _ h)
theorem RepL.mono (e : Ex H H') : ∀ {vs : List V} {ds : List D}, RepL K A H vs ds → RepL K A H' vs ds
  | _, _, .nil => .nil
  | _, _, .cons h r => .cons (Rep.mono e h) (RepL.mono e r)
end
theorem RepL.length : ∀ {vs : List V} {ds : List D}, RepL K A H vs ds → vs.length = ds.length
  | _, _, .nil => rfl
  | _, _, .cons _ r => by rw [List.length_cons, List.length_cons, RepL.length r]
theorem RepL.app : ∀ {vs ws : List V} {ds es : List D}, RepL K A H vs ds → RepL K A H ws es → RepL K A H (vs ++ ws) (ds ++ es)
  | _, _, _, _, .nil, h => h
  | _, _, _, _, .cons h r, h2 => .cons h (RepL.app r h2)
theorem RepL.one {v : V} {d : D} (h : Rep K A H v d) : RepL K A H [v] [d] := .cons h .nil
theorem RepL.get : ∀ {vs : List V} {ds : List D} {i : Nat} {d : D}, RepL K A H vs ds → ds[i]? = some d → ∃ v, vs[i]? = some v ∧ Rep K A H v d
  | _, _, _, _, .nil, e => by simp at e
  | _, _, 0, _, .cons h _, e => by simp at e; subst e; exact ⟨_, rfl, h⟩
  | _, _, i + 1, d, .cons _ r, e => by
    obtain ⟨v, h1, h2⟩ := RepL.get (i := i) (d := d) r (by simpa using e)
    exact ⟨v, by simpa using h1, h2⟩
theorem RepL.at : ∀ {vs : List V} {ds : List D} {i : Nat} {v : V}, RepL K A H vs ds → vs[i]? = some v → ∃ d, ds[i]? = some d ∧ Rep K A H v d
  | _, _, _, _, .nil, e => by simp at e
  | _, _, 0, _, .cons h _, e => by simp at e; subst e; exact ⟨_, rfl, h⟩
  | _, _, i + 1, v, .cons _ r, e => by
    obtain ⟨d, h1, h2⟩ := RepL.at (i := i) (v := v) r (by simpa using e)
    exact ⟨d, by simpa using h1, h2⟩
theorem RepL.take : ∀ {vs : List V} {ds : List D} (n : Nat), RepL K A H vs ds → RepL K A H (vs.take n) (ds.take n)
  | _, _, 0, _ => .nil
  | _, _, _ + 1, .nil => .nil
  | _, _, n + 1, .cons h r => .cons h (RepL.take n r)
theorem RepL.drop : ∀ {vs : List V} {ds : List D} (n : Nat), RepL K A H vs ds → RepL K A H (vs.drop n) (ds.drop n)
  | _, _, 0, h => h
  | _, _, _ + 1, .nil => .nil
  | _, _, n + 1, .cons _ r => RepL.drop n r
theorem RepL.rev {vs : List V} {ds : List D} (h : RepL K A H vs ds) : RepL K A H vs.reverse ds.reverse := by
  induction ds generalizing vs with
  | nil => cases h; exact .nil
  | cons d ds ih =>
    cases h with
    | cons h r =>
      rw [List.reverse_cons, List.reverse_cons]
      exact (ih r).app (.one h)
theorem RepL.set : ∀ {vs : List V} {ds : List D} {v : V} {d : D} (i : Nat), RepL K A H vs ds → Rep K A H v d → RepL K A H (vs.set i v) (ds.set i d)
  | _, _, _, _, _, .nil, _ => .nil
  | _, _, _, _, 0, .cons _ r, q => .cons q r
  | _, _, _, _, i + 1, .cons h r, q => .cons h (RepL.set i r q)
theorem RepL.ints (ns : List Int) : RepL K A H (ns.map V.int) (ns.map D.int) := by
  induction ns with
  | nil => exact .nil
  | cons n ns ih => exact .cons (.int n) ih
/-- what a list of ints, of texts, of bools holds -/
theorem RepL.ofInts : ∀ {ns : List Int} {vs : List V}, RepL K A H vs (ns.map D.int) → vs = ns.map V.int
  | [], _, .nil => rfl
  | n :: ns, _, .cons (.int _) r => by rw [List.map_cons, RepL.ofInts r]
theorem RepL.ofStrs : ∀ {xs : List Str} {vs : List V}, RepL K A H vs (xs.map D.str) → vs = xs.map V.str
  | [], _, .nil => rfl
  | n :: ns, _, .cons (.str _) r => by rw [List.map_cons, RepL.ofStrs r]
theorem RepL.ofBls : ∀ {xs : List Bool} {vs : List V}, RepL K A H vs (xs.map D.bl) → vs = xs.map V.bl
  | [], _, .nil => rfl
  | n :: ns, _, .cons (.bl _) r => by rw [List.map_cons, RepL.ofBls r]
theorem RepL.flatten : ∀ {vss : List (List V)} {dss : List (List D)}, vss.length = dss.length → (∀ (i : Nat) vs ds, vss[i]? = some vs → dss[i]? = some ds → RepL K A H vs ds) → RepL K A H vss.flatten dss.flatten
  | [], [], _, _ => .nil
  | vs :: vss, ds :: dss, hl, h => by
    rw [List.flatten_cons, List.flatten_cons]
    exact (h 0 vs ds rfl rfl).app (RepL.flatten (by simpa using hl) fun i a b ha hb => h (i + 1) a b (by simpa using ha) (by simpa using hb))
end

/-! ### the frozen part and the heap -/
structure Grow (F H F' H' : Hp) : Prop where
  f : Ex F F'
  h : Ex H H'
  i : Ex F' H'
  n : ∀ a o, H a = some o → F' a = F a
theorem Grow.refl {F H : Hp} (e : Ex F H) : Grow F H F H := ⟨.refl _, .refl _, e, fun _ _ _ => rfl⟩
theorem Grow.trans {F H F1 H1 F2 H2 : Hp} (a : Grow F H F1 H1) (b : Grow F1 H1 F2 H2) : Grow F H F2 H2 :=
  ⟨a.f.trans b.f, a.h.trans b.h, b.i, fun c o e => (b.n c o (a.h c o e)).trans (a.n c o e)⟩
/-- a new object, frozen at once -/
theorem Grow.new {F H : Hp} {p : Addr} {o : HO} (e : Ex F H) (hp : H p = none) : Grow F H (upd F p o) (upd H p o) where
  f := .new (e.free hp)
  h := .new hp
  i := fun a u ha => by
    by_cases q : a = p
    · subst q; rw [upd_same] at ha ⊢; exact ha
    · rw [upd_ne q] at ha ⊢; exact e a u ha
  n := fun a u ha => upd_ne (ne_of_none ha hp)
/-- a new object, not frozen -/
theorem Grow.raw {F H : Hp} {p : Addr} {o : HO} (e : Ex F H) (hp : H p = none) : Grow F H F (upd H p o) where
  f := .refl _
  h := .new hp
  i := e.trans (.new hp)
  n := fun _ _ _ => rfl

/-- a slot's data: none, frozen, a list of its own -/
inductive Ent where
  | un | fz (d : D) | ow (ds : List D) | tk (n : Nat)
abbrev Ro := List Ent

/-- what holds of a def's frame: B, F0: the heap and its frozen part at the entry; F: the frozen part now -/
structure SR (K : PySem.W.Frag) (A : Ad) (T : Nat → V) (B F0 F H : Hp) (σ : L2.St) (ρ : Ro) : Prop where
  fh : Ex F H
  bh : Ex B H
  f0 : Ex F0 F
  nw : ∀ a o, B a = some o → F a = F0 a
  len : σ.length = ρ.length
  fz : ∀ (i : Nat) d, ρ[i]? = some (.fz d) → ∃ v, σ[i]? = some (some v) ∧ Rep K A F v d
  ow : ∀ (i : Nat) ds, ρ[i]? = some (.ow ds) → ∃ l vs, σ[i]? = some (some (.ref l)) ∧ F l = none ∧ B l = none ∧ H l = some (.lst vs) ∧ RepL K A F vs ds
  sep : ∀ (i j : Nat) ds es, i ≠ j → ρ[i]? = some (.ow ds) → ρ[j]? = some (.ow es) → σ[i]? ≠ σ[j]?
  tk : ∀ (i : Nat) n, ρ[i]? = some (.tk n) → σ[i]? = some (some (T n))
section
variable {K : PySem.W.Frag} {A : Ad} {T : Nat → V} {B F0 F H F' H' : Hp} {σ : L2.St} {ρ : Ro}
theorem SR.grow (S : SR K A T B F0 F H σ ρ) (G : Grow F H F' H') : SR K A T B F0 F' H' σ ρ where
  fh := G.i
  bh := S.bh.trans G.h
  f0 := S.f0.trans G.f
  nw := fun a o e => (G.n a o (S.bh a o e)).trans (S.nw a o e)
  len := S.len
  fz := fun i d e => by
    obtain ⟨v, h1, h2⟩ := S.fz i d e
    exact ⟨v, h1, h2.mono G.f⟩
  ow := fun i ds e => by
    obtain ⟨l, vs, h1, h2, h3, h4, h5⟩ := S.ow i ds e
    exact ⟨l, vs, h1, (G.n l _ h4).trans h2, h3, G.h l _ h4, h5.mono G.f⟩
  sep := S.sep
  tk := S.tk
theorem set_get {α : Type} {l : List α} {i j : Nat} {x y : α} (h : (l.set i x)[j]? = some y) : (j = i ∧ y = x) ∨ (j ≠ i ∧ l[j]? = some y) := by
  by_cases e : i = j
  · subst e
    by_cases hl : i < l.length
    · rw [List.getElem?_set_self hl] at h
      exact .inl ⟨rfl, (Option.some.inj h).symm⟩
    · rw [List.getElem?_eq_none (by simpa using hl)] at h
      cases h
  · rw [List.getElem?_set_ne e] at h
    exact .inr ⟨fun q => e q.symm, h⟩
/-- a slot stored: frozen data -/
theorem SR.setF (S : SR K A T B F0 F H σ ρ) {i : Nat} {v : V} {d : D} (r : Rep K A F v d) : SR K A T B F0 F H (σ.set i (some v)) (ρ.set i (.fz d)) where
  fh := S.fh
  bh := S.bh
  f0 := S.f0
  nw := S.nw
  len := by rw [List.length_set, List.length_set, S.len]
  fz := fun j e h => by
    rcases set_get h with ⟨rfl, q⟩ | ⟨q, h'⟩
    · cases q
      have hl : j < σ.length := by
        have := (List.getElem?_eq_some_iff.mp h).1
        rw [List.length_set] at this
        rw [S.len]; exact this
      exact ⟨v, List.getElem?_set_self hl, r⟩
    · obtain ⟨w, h1, h2⟩ := S.fz j e h'
      exact ⟨w, by rw [List.getElem?_set_ne (Ne.symm q)]; exact h1, h2⟩
  ow := fun j es h => by
    rcases set_get h with ⟨rfl, q⟩ | ⟨q, h'⟩
    · cases q
    · obtain ⟨l, vs, h1, h2⟩ := S.ow j es h'
      exact ⟨l, vs, by rw [List.getElem?_set_ne (Ne.symm q)]; exact h1, h2⟩
  sep := fun j k ds es hne hj hk => by
    rcases set_get hj with ⟨rfl, q⟩ | ⟨q, hj'⟩
    · cases q
    · rcases set_get hk with ⟨rfl, q2⟩ | ⟨q2, hk'⟩
      · cases q2
      · rw [List.getElem?_set_ne (Ne.symm q), List.getElem?_set_ne (Ne.symm q2)]
        exact S.sep j k ds es hne hj' hk'
  tk := fun j n h => by
    rcases set_get h with ⟨rfl, q⟩ | ⟨q, h'⟩
    · cases q
    · rw [List.getElem?_set_ne (Ne.symm q)]
      exact S.tk j n h'
/-- a slot stored: a list of one's own, at an address that no other slot's list has -/
theorem SR.setO (S : SR K A T B F0 F H σ ρ) {i : Nat} {l : Addr} {vs : List V} {ds : List D} (h1 : F l = none) (h2 : B l = none) (h3 : H l = some (.lst vs)) (r : RepL K A F vs ds)
    (hn : ∀ (j : Nat) es, j ≠ i → ρ[j]? = some (.ow es) → σ[j]? ≠ some (some (.ref l))) : SR K A T B F0 F H (σ.set i (some (.ref l))) (ρ.set i (.ow ds)) where
  fh := S.fh
  bh := S.bh
  f0 := S.f0
  nw := S.nw
  len := by rw [List.length_set, List.length_set, S.len]
  fz := fun j e h => by
    rcases set_get h with ⟨rfl, q⟩ | ⟨q, h'⟩
    · cases q
    · obtain ⟨w, h1, h2⟩ := S.fz j e h'
      exact ⟨w, by rw [List.getElem?_set_ne (Ne.symm q)]; exact h1, h2⟩
  ow := fun j es h => by
    rcases set_get h with ⟨rfl, q⟩ | ⟨q, h'⟩
    · cases q
      have hl : j < σ.length := by
        have := (List.getElem?_eq_some_iff.mp h).1
        rw [List.length_set] at this
        rw [S.len]; exact this
      exact ⟨l, vs, List.getElem?_set_self hl, h1, h2, h3, r⟩
    · obtain ⟨l', vs', q1, q2⟩ := S.ow j es h'
      exact ⟨l', vs', by rw [List.getElem?_set_ne (Ne.symm q)]; exact q1, q2⟩
  sep := fun j k es fs hne hj hk => by
    have hsz : ∀ m, (ρ.set i (.ow ds))[m]? = some (.ow ds) → m = i → m < σ.length := fun m hm _ => by
      have := (List.getElem?_eq_some_iff.mp hm).1
      rw [List.length_set] at this
      rw [S.len]; exact this
    rcases set_get hj with ⟨rfl, q⟩ | ⟨q, hj'⟩
    · rcases set_get hk with ⟨rfl, q2⟩ | ⟨q2, hk'⟩
      · exact absurd rfl hne
      · cases q
        rw [List.getElem?_set_self (hsz _ hj rfl), List.getElem?_set_ne (Ne.symm q2)]
        exact fun z => hn k fs q2 hk' z.symm
    · rcases set_get hk with ⟨rfl, q2⟩ | ⟨q2, hk'⟩
      · cases q2
        rw [List.getElem?_set_ne (Ne.symm q), List.getElem?_set_self (hsz _ hk rfl)]
        exact hn j es q hj'
      · rw [List.getElem?_set_ne (Ne.symm q), List.getElem?_set_ne (Ne.symm q2)]
        exact S.sep j k es fs hne hj' hk'
  tk := fun j n h => by
    rcases set_get h with ⟨rfl, q⟩ | ⟨q, h'⟩
    · cases q
    · rw [List.getElem?_set_ne (Ne.symm q)]
      exact S.tk j n h'
/-- a slot forgotten -/
theorem SR.drop (S : SR K A T B F0 F H σ ρ) {i : Nat} : SR K A T B F0 F H σ (ρ.set i .un) where
  fh := S.fh
  bh := S.bh
  f0 := S.f0
  nw := S.nw
  len := by rw [List.length_set, S.len]
  fz := fun j e h => by
    rcases set_get h with ⟨rfl, q⟩ | ⟨q, h'⟩
    · cases q
    · exact S.fz j e h'
  ow := fun j es h => by
    rcases set_get h with ⟨rfl, q⟩ | ⟨q, h'⟩
    · cases q
    · exact S.ow j es h'
  sep := fun j k ds es hne hj hk => by
    rcases set_get hj with ⟨rfl, q⟩ | ⟨q, hj'⟩
    · cases q
    · rcases set_get hk with ⟨rfl, q2⟩ | ⟨q2, hk'⟩
      · cases q2
      · exact S.sep j k ds es hne hj' hk'
  tk := fun j n h => by
    rcases set_get h with ⟨rfl, q⟩ | ⟨q, h'⟩
    · cases q
    · exact S.tk j n h'
/-- .. its value, too -/
theorem SR.dropV (S : SR K A T B F0 F H σ ρ) {i : Nat} : SR K A T B F0 F H (σ.set i none) (ρ.set i .un) where
  fh := S.fh
  bh := S.bh
  f0 := S.f0
  nw := S.nw
  len := by rw [List.length_set, List.length_set, S.len]
  fz := fun j e h => by
    rcases set_get h with ⟨rfl, q⟩ | ⟨q, h'⟩
    · cases q
    · rw [List.getElem?_set_ne (Ne.symm q)]
      exact S.fz j e h'
  ow := fun j es h => by
    rcases set_get h with ⟨rfl, q⟩ | ⟨q, h'⟩
    · cases q
    · rw [List.getElem?_set_ne (Ne.symm q)]
      exact S.ow j es h'
  sep := fun j k ds es hne hj hk => by
    rcases set_get hj with ⟨rfl, q⟩ | ⟨q, hj'⟩
    · cases q
    · rcases set_get hk with ⟨rfl, q2⟩ | ⟨q2, hk'⟩
      · cases q2
      · rw [List.getElem?_set_ne (Ne.symm q), List.getElem?_set_ne (Ne.symm q2)]
        exact S.sep j k ds es hne hj' hk'
  tk := fun j n h => by
    rcases set_get h with ⟨rfl, q⟩ | ⟨q, h'⟩
    · cases q
    · rw [List.getElem?_set_ne (Ne.symm q)]
      exact S.tk j n h'
/-- a list of one's own is frozen -/
theorem SR.freeze (S : SR K A T B F0 F H σ ρ) {i : Nat} {ds : List D} (h : ρ[i]? = some (.ow ds)) : ∃ F', Ex F F' ∧ SR K A T B F0 F' H σ (ρ.set i (.fz (.lst ds))) := by
  obtain ⟨l, vs, h1, h2, h3, h4, h5⟩ := S.ow i ds h
  have e : Ex F (upd F l (.lst vs)) := .new h2
  refine ⟨upd F l (.lst vs), e, ?_, S.bh, S.f0.trans e, ?_, ?_, ?_, ?_, ?_, ?_⟩
  · intro a u ha
    by_cases q : a = l
    · subst q; rw [upd_same] at ha; rw [← ha]; exact h4
    · rw [upd_ne q] at ha; exact S.fh a u ha
  · intro a o ha
    rw [upd_ne (ne_of_none ha h3)]
    exact S.nw a o ha
  · rw [List.length_set, S.len]
  · intro j d hj
    rcases set_get hj with ⟨rfl, q⟩ | ⟨q, hj'⟩
    · cases q
      exact ⟨_, h1, .lst upd_same (h5.mono e)⟩
    · obtain ⟨v, q1, q2⟩ := S.fz j d hj'
      exact ⟨v, q1, q2.mono e⟩
  · intro j es hj
    rcases set_get hj with ⟨rfl, q⟩ | ⟨q, hj'⟩
    · cases q
    · obtain ⟨l', vs', q1, q2, q3, q4, q5⟩ := S.ow j es hj'
      refine ⟨l', vs', q1, ?_, q3, q4, q5.mono e⟩
      rw [upd_ne]
      · exact q2
      · intro z
        subst z
        exact S.sep j i es ds q hj' h (by rw [q1, h1])
  · intro j k es fs hne hj hk
    rcases set_get hj with ⟨rfl, q⟩ | ⟨q, hj'⟩
    · cases q
    · rcases set_get hk with ⟨rfl, q2⟩ | ⟨q2, hk'⟩
      · cases q2
      · exact S.sep j k es fs hne hj' hk'
  · intro j n h'
    rcases set_get h' with ⟨rfl, q⟩ | ⟨q, h2'⟩
    · cases q
    · exact S.tk j n h2'
/-- a list of one's own is changed -/
theorem SR.write (S : SR K A T B F0 F H σ ρ) {i : Nat} {ds es : List D} {l : Addr} {ws : List V} (h : ρ[i]? = some (.ow ds)) (hl : σ[i]? = some (some (.ref l))) (r : RepL K A F ws es) : SR K A T B F0 F (upd H l (.lst ws)) σ (ρ.set i (.ow es)) := by
  obtain ⟨l', vs, h1, h2, h3, h4, h5⟩ := S.ow i ds h
  rw [hl] at h1
  cases h1
  refine ⟨S.fh.mut h2, S.bh.mut h3, S.f0, S.nw, by rw [List.length_set, S.len], ?_, ?_, ?_, ?_⟩
  · intro j d hj
    rcases set_get hj with ⟨rfl, q⟩ | ⟨q, hj'⟩
    · cases q
    · exact S.fz j d hj'
  · intro j fs hj
    rcases set_get hj with ⟨rfl, q⟩ | ⟨q, hj'⟩
    · cases q
      exact ⟨l, ws, hl, h2, h3, upd_same, r⟩
    · obtain ⟨l', vs', q1, q2, q3, q4, q5⟩ := S.ow j fs hj'
      refine ⟨l', vs', q1, q2, q3, ?_, q5⟩
      rw [upd_ne]
      · exact q4
      · intro z
        subst z
        exact S.sep j i fs ds q hj' h (by rw [q1, hl])
  · intro j k fs gs hne hj hk
    have back : ∀ (m : Nat) xs, (ρ.set i (.ow es))[m]? = some (.ow xs) → ∃ ys, ρ[m]? = some (.ow ys) := fun m xs hm => by
      rcases set_get hm with ⟨rfl, q⟩ | ⟨q, hm'⟩
      · exact ⟨ds, h⟩
      · exact ⟨xs, hm'⟩
    obtain ⟨y1, e1⟩ := back j fs hj
    obtain ⟨y2, e2⟩ := back k gs hk
    exact S.sep j k y1 y2 hne e1 e2
  · intro j n h'
    rcases set_get h' with ⟨rfl, q⟩ | ⟨q, h2'⟩
    · cases q
    · exact S.tk j n h2'
end

/-! ### kinds of results -/
inductive Kd where
  | bw | fz | ow
  deriving DecidableEq
section
variable (K : PySem.W.Frag) (A : Ad)
def RK : Kd → Hp → Hp → Hp → V → D → Prop
  | .fz, F', _, _, v, d => Rep K A F' v d
  | .bw, F', _, H', v, d => Rep K A F' v d ∨ ∃ l vs ds, v = .ref l ∧ d = .lst ds ∧ H' l = some (.lst vs) ∧ RepL K A F' vs ds
  | .ow, F', H, H', v, d => ∃ l vs ds, v = .ref l ∧ d = .lst ds ∧ H l = none ∧ F' l = none ∧ H' l = some (.lst vs) ∧ RepL K A F' vs ds
end
section
variable {K : PySem.W.Frag} {A : Ad} {F H F' H' H0 : Hp} {v : V} {d : D} {k : Kd}
theorem RK.grow (G : Grow F H F' H') (h : RK K A k F H0 H v d) : RK K A k F' H0 H' v d := by
  cases k with
  | fz => exact Rep.mono G.f h
  | bw =>
    rcases h with h | ⟨l, vs, ds, e1, e2, e3, e4⟩
    · exact .inl (h.mono G.f)
    · exact .inr ⟨l, vs, ds, e1, e2, G.h _ _ e3, e4.mono G.f⟩
  | ow =>
    obtain ⟨l, vs, ds, e1, e2, e0, e5, e3, e4⟩ := h
    exact ⟨l, vs, ds, e1, e2, e0, (G.n _ _ e3).trans e5, G.h _ _ e3, e4.mono G.f⟩
theorem RK.bw_of (h : RK K A k F H0 H v d) : RK K A .bw F H0 H v d := by
  cases k with
  | fz => exact .inl h
  | bw => exact h
  | ow =>
    obtain ⟨l, vs, ds, e1, e2, e0, e5, e3, e4⟩ := h
    exact .inr ⟨l, vs, ds, e1, e2, e3, e4⟩
/-- what is read of a list -/
theorem RK.lst {ds : List D} (e : Ex F H) (h : RK K A .bw F H0 H v (.lst ds)) : ∃ a vs, v = .ref a ∧ H a = some (.lst vs) ∧ RepL K A F vs ds := by
  rcases h with h | ⟨l, vs, ds', e1, e2, e3, e4⟩
  · cases h with
    | lst h r => exact ⟨_, _, rfl, e _ _ h, r⟩
  · cases e2
    exact ⟨l, vs, e1, e3, e4⟩
/-- what is no list is frozen -/
theorem RK.rep (h : RK K A .bw F H0 H v d) (hd : ∀ ds, d ≠ .lst ds) : Rep K A F v d := by
  rcases h with h | ⟨l, vs, ds', e1, e2, e3, e4⟩
  · exact h
  · exact absurd e2 (hd _)
/-- in the whole heap -/
theorem RK.all (e : Ex F H) (h : RK K A .bw F H0 H v d) : Rep K A H v d := by
  rcases h with h | ⟨l, vs, ds', e1, e2, e3, e4⟩
  · exact h.mono e
  · subst e1 e2
    exact .lst e3 (e4.mono e)
end

/-! ### expressions -/
abbrev EM (α : Type) := Option (Except Xn α)
def ok {α : Type} (a : α) : EM α := some (.ok a)
def bnd {α β : Type} (m : EM α) (f : α → EM β) : EM β := match m with
  | none => none
  | some (.error x) => some (.error x)
  | some (.ok a) => f a
/-- what a def's frame carries through: the classes' places, the heap and its frozen part at the entry, what is wished of a refusal -/
structure Fx where
  A : Ad
  T : Nat → V
  B : Hp
  F0 : Hp
  W : WX
/-- a refusal's own dict -/
def XR (H : Hp) : Xn → Option Addr → Prop
  | .badRow n, dd => ∃ d, dd = some d ∧ H d = some (.xd [(("row" : Str), .int n)])
  | .badDay n, dd => ∃ d, dd = some d ∧ H d = some (.xd [(("day" : Str), .int n)])
  | _, dd => dd = none
def Wx (K : PySem.W.Frag) (x : Fx) (F H : Hp) (σ : L2.St) (e : Xn) : Prop := ∀ F' H' dd, Grow F H F' H' → XR H' e dd → x.W (.ref (x.A.xc e.cl)) dd σ H'
theorem Wx.grow {K : PySem.W.Frag} {x : Fx} {F H F' H' : Hp} {σ : L2.St} {e : Xn} (G : Grow F H F' H') (h : Wx K x F H σ e) : Wx K x F' H' σ e := fun F2 H2 dd G2 r => h F2 H2 dd (G.trans G2) r
/-- the wish behind an expression -/
def Wd (K : PySem.W.Frag) (x : Fx) (k : Kd) (r : Except Xn D) (F H : Hp) (σ : L2.St) (Q : VK) : Prop := match r with
  | .ok d => ∀ F' H' v, Grow F H F' H' → RK K x.A k F' H H' v d → Q v H'
  | .error e => Wx K x F H σ e
theorem RK.old {K : PySem.W.Frag} {A : Ad} {k : Kd} {F H0 H1 H : Hp} {v : V} {d : D} (e : Ex H0 H1) (h : RK K A k F H1 H v d) : RK K A k F H0 H v d := by
  cases k with
  | fz => exact h
  | bw => exact h
  | ow =>
    obtain ⟨l, vs, ds, e1, e2, e0, e5, e3, e4⟩ := h
    exact ⟨l, vs, ds, e1, e2, e.free e0, e5, e3, e4⟩
theorem Wd.grow {K : PySem.W.Frag} {x : Fx} {k : Kd} {r : Except Xn D} {F H F' H' : Hp} {σ : L2.St} {Q : VK} (G : Grow F H F' H') (h : Wd K x k r F H σ Q) : Wd K x k r F' H' σ Q := by
  cases r with
  | ok d => exact fun F2 H2 v G2 r => h F2 H2 v (G.trans G2) (r.old G.h)
  | error e => exact Wx.grow (K := K) G h
def tK (K : PySem.W.Frag) (x : Fx) (k : Kd) (f : Ro → EM D) : TE := fun σ H Q => ∃ F ρ r, SR K x.A x.T x.B x.F0 F H σ ρ ∧ f ρ = some r ∧ Wd K x k r F H σ Q
section
variable {K : PySem.W.Frag} {x : Fx} {k : Kd} {f : Ro → EM D} {F H : Hp} {σ : L2.St} {ρ : Ro}
/-- one part of an expression, then the rest -/
theorem tk_step {β : Type} {g : D → EM β} {r : Except Xn β} {Q : VK} (S : SR K x.A x.T x.B x.F0 F H σ ρ) (e : bnd (f ρ) g = some r) (hx : ∀ y, r = .error y → Wx K x F H σ y)
    (hk : ∀ d F' H' v, Grow F H F' H' → SR K x.A x.T x.B x.F0 F' H' σ ρ → RK K x.A k F' H H' v d → g d = some r → Q v H') : tK K x k f σ H Q := by
  cases ef : f ρ with
  | none => rw [ef] at e; cases e
  | some q =>
    rw [ef] at e
    cases q with
    | error y =>
      have e' : (Except.error y : Except Xn β) = r := Option.some.inj e
      exact ⟨F, ρ, .error y, S, ef, hx y e'.symm⟩
    | ok d => exact ⟨F, ρ, .ok d, S, ef, fun F' H' v G r' => hk d F' H' v G (S.grow G) r' e⟩
end
def Wd.x {K : PySem.W.Frag} {x : Fx} {k : Kd} {r : Except Xn D} {F H : Hp} {σ : L2.St} {Q : VK} (h : Wd K x k r F H σ Q) : ∀ y, r = .error y → Wx K x F H σ y := fun y e => by
  subst e; exact h

/-- arguments -/
inductive RKL (K : PySem.W.Frag) (A : Ad) (k : Kd) (F' H H' : Hp) : List V → List D → Prop
  | nil : RKL K A k F' H H' [] []
  | cons {v : V} {vs : List V} {d : D} {ds : List D} : RK K A k F' H H' v d → RKL K A k F' H H' vs ds → RKL K A k F' H H' (v :: vs) (d :: ds)
theorem RKL.grow {K : PySem.W.Frag} {A : Ad} {F H F' H' H0 : Hp} {k : Kd} (G : Grow F H F' H') : ∀ {vs : List V} {ds : List D}, RKL K A k F H0 H vs ds → RKL K A k F' H0 H' vs ds
  | _, _, .nil => .nil
  | _, _, .cons h r => .cons (h.grow G) (RKL.grow G r)
theorem RKL.old {K : PySem.W.Frag} {A : Ad} {k : Kd} {F H0 H1 H : Hp} (e : Ex H0 H1) : ∀ {vs : List V} {ds : List D}, RKL K A k F H1 H vs ds → RKL K A k F H0 H vs ds
  | _, _, .nil => .nil
  | _, _, .cons h r => .cons (h.old e) (RKL.old e r)
theorem RKL.repL {K : PySem.W.Frag} {A : Ad} {F H0 H : Hp} : ∀ {vs : List V} {ds : List D}, RKL K A .fz F H0 H vs ds → RepL K A F vs ds
  | _, _, .nil => .nil
  | _, _, .cons h r => .cons h (RKL.repL r)
def WdA (K : PySem.W.Frag) (x : Fx) (k : Kd) (r : Except Xn (List D)) (F H : Hp) (σ : L2.St) (Q : List V → Hp → Prop) : Prop := match r with
  | .ok ds => ∀ F' H' vs, Grow F H F' H' → RKL K x.A k F' H H' vs ds → Q vs H'
  | .error e => Wx K x F H σ e
def tA (K : PySem.W.Frag) (x : Fx) (k : Kd) (f : Ro → EM (List D)) : TA := fun σ H Q => ∃ F ρ r, SR K x.A x.T x.B x.F0 F H σ ρ ∧ f ρ = some r ∧ WdA K x k r F H σ Q
theorem ta_step {K : PySem.W.Frag} {x : Fx} {k : Kd} {f : Ro → EM (List D)} {F H : Hp} {σ : L2.St} {ρ : Ro} {β : Type} {g : List D → EM β} {r : Except Xn β} {Q : List V → Hp → Prop} (S : SR K x.A x.T x.B x.F0 F H σ ρ) (e : bnd (f ρ) g = some r) (hx : ∀ y, r = .error y → Wx K x F H σ y)
    (hk : ∀ ds F' H' vs, Grow F H F' H' → SR K x.A x.T x.B x.F0 F' H' σ ρ → RKL K x.A k F' H H' vs ds → g ds = some r → Q vs H') : tA K x k f σ H Q := by
  cases ef : f ρ with
  | none => rw [ef] at e; cases e
  | some q =>
    rw [ef] at e
    cases q with
    | error y =>
      have e' : (Except.error y : Except Xn β) = r := Option.some.inj e
      exact ⟨F, ρ, .error y, S, ef, hx y e'.symm⟩
    | ok d => exact ⟨F, ρ, .ok d, S, ef, fun F' H' v G r' => hk d F' H' v G (S.grow G) r' e⟩

/-- tests -/
def WdT (K : PySem.W.Frag) (x : Fx) (r : Except Xn Bool) (F H : Hp) (σ : L2.St) (Q : Bool → Hp → Prop) : Prop := match r with
  | .ok b => ∀ F' H', Grow F H F' H' → Q b H'
  | .error e => Wx K x F H σ e
def tT (K : PySem.W.Frag) (x : Fx) (f : Ro → EM Bool) : TT := fun σ H Q => ∃ F ρ r, SR K x.A x.T x.B x.F0 F H σ ρ ∧ f ρ = some r ∧ WdT K x r F H σ Q
theorem tt_step {K : PySem.W.Frag} {x : Fx} {f : Ro → EM Bool} {F H : Hp} {σ : L2.St} {ρ : Ro} {β : Type} {g : Bool → EM β} {r : Except Xn β} {Q : Bool → Hp → Prop} (S : SR K x.A x.T x.B x.F0 F H σ ρ) (e : bnd (f ρ) g = some r) (hx : ∀ y, r = .error y → Wx K x F H σ y)
    (hk : ∀ b F' H', Grow F H F' H' → SR K x.A x.T x.B x.F0 F' H' σ ρ → g b = some r → Q b H') : tT K x f σ H Q := by
  cases ef : f ρ with
  | none => rw [ef] at e; cases e
  | some q =>
    rw [ef] at e
    cases q with
    | error y =>
      have e' : (Except.error y : Except Xn β) = r := Option.some.inj e
      exact ⟨F, ρ, .error y, S, ef, hx y e'.symm⟩
    | ok d => exact ⟨F, ρ, .ok d, S, ef, fun F' H' G => hk d F' H' G (S.grow G) e⟩

/-! ### statements -/
inductive Fl where
  | nx (ρ : Ro) | rt (d : D) | rto (ds : List D) | bk (ρ : Ro) | ct (ρ : Ro) | ex (e : Xn) (ρ : Ro)
/-- a way on, from F on -/
def Nxt (K : PySem.W.Frag) (x : Fx) (F : Hp) (ρ : Ro) (R : L2.St → Hp → Prop) : Prop := ∀ F' H' σ', Ex F F' → SR K x.A x.T x.B x.F0 F' H' σ' ρ → R σ' H'
def WdS (K : PySem.W.Frag) (x : Fx) (fl : Fl) (F : Hp) (E : Ends) : Prop := match fl with
  | .nx ρ => Nxt K x F ρ E.nx
  | .bk ρ => Nxt K x F ρ E.bk
  | .ct ρ => Nxt K x F ρ E.ct
  | .rt d => ∀ F' H' v, Grow x.F0 x.B F' H' → Rep K x.A F' v d → E.rt v H'
  | .rto ds => ∀ F' H' l vs, Grow x.F0 x.B F' H' → x.B l = none → F' l = none → H' l = some (.lst vs) → RepL K x.A F' vs ds → E.rt (.ref l) H'
  | .ex e ρ => Nxt K x F ρ fun σ' H' => ∀ dd, XR H' e dd → x.W (.ref (x.A.xc e.cl)) dd σ' H'
theorem Nxt.mono {K : PySem.W.Frag} {x : Fx} {F F' : Hp} {ρ : Ro} {R : L2.St → Hp → Prop} (e : Ex F F') (h : Nxt K x F ρ R) : Nxt K x F' ρ R := fun F2 H2 σ2 e2 S => h F2 H2 σ2 (e.trans e2) S
theorem WdS.mono {K : PySem.W.Frag} {x : Fx} {fl : Fl} {F F' : Hp} {E : Ends} (e : Ex F F') (h : WdS K x fl F E) : WdS K x fl F' E := by
  cases fl with
  | nx ρ => exact Nxt.mono e h
  | bk ρ => exact Nxt.mono e h
  | ct ρ => exact Nxt.mono e h
  | rt d => exact h
  | rto ds => exact h
  | ex y ρ => exact Nxt.mono e h
def tS (K : PySem.W.Frag) (x : Fx) (g : Ro → Option Fl) : TS := fun E σ H => ∃ F ρ fl, SR K x.A x.T x.B x.F0 F H σ ρ ∧ g ρ = some fl ∧ WdS K x fl F E
/-- a refusal of an expression is one of the statement -/
theorem WdS.wx {K : PySem.W.Frag} {x : Fx} {F H : Hp} {σ : L2.St} {ρ : Ro} {e : Xn} {E : Ends} (S : SR K x.A x.T x.B x.F0 F H σ ρ) (h : WdS K x (.ex e ρ) F E) : Wx K x F H σ e := fun F' H' dd G r => h F' H' σ G.f (S.grow G) dd r

section
variable {X : Cx}
theorem pe_wk {e : Expr} {t t' : TE} (h : PE X e t) (w : ∀ σ H Q, t' σ H Q → t σ H Q) : PE X e t' := ⟨fun pins s σ H Q I q => h.run pins s σ H Q I (w σ H Q q)⟩
theorem pt_wk {e : Expr} {t t' : TT} (h : PT X e t) (w : ∀ σ H Q, t' σ H Q → t σ H Q) : PT X e t' := ⟨fun pins s σ H Q I q => h.run pins s σ H Q I (w σ H Q q)⟩
theorem pw_wk {e : Expr} {t t' : TT} (h : PW X e t) (w : ∀ σ H Q, t' σ H Q → t σ H Q) : PW X e t' := ⟨fun wh pins s σ H Q I q => h.run wh pins s σ H Q I (w σ H Q q)⟩
theorem pa_wk {es : List Expr} {t t' : TA} (h : PA X es t) (w : ∀ σ H Q, t' σ H Q → t σ H Q) : PA X es t' := ⟨fun p pins s σ H Q I q => h.run p pins s σ H Q I (w σ H Q q)⟩
theorem ps_wk {st : Stmt} {t t' : TS} (h : PS X st t) (w : ∀ E σ H, t' E σ H → t E σ H) : PS X st t' := ⟨fun pins s σ H E I q => h.run pins s σ H E I (w E σ H q)⟩
theorem pss_wk {st : List Stmt} {t t' : TS} (h : PSs X st t) (w : ∀ E σ H, t' E σ H → t E σ H) : PSs X st t' := ⟨fun pins s σ H E I q => h.run pins s σ H E I (w E σ H q)⟩

variable {x : Fx} {f g : Ro → EM D} {k : Kd} {a b : Expr} {pos : Pos}
/-! ### kinds -/
theorem pk_bw (h : PE X a (tK X.K x k f)) : PE X a (tK X.K x .bw f) := pe_wk h fun σ H Q ⟨F, ρ, r, S, e, w⟩ => ⟨F, ρ, r, S, e, by
  cases r with
  | ok d => exact fun F' H' v G r => w F' H' v G r.bw_of
  | error y => exact w⟩
theorem pk_fz (h : PE X a (tK X.K x .ow f)) : PE X a (tK X.K x .fz f) := pe_wk h fun σ H Q ⟨F, ρ, r, S, e, w⟩ => ⟨F, ρ, r, S, e, by
  cases r with
  | error y => exact w
  | ok d =>
    intro F' H' v G q
    obtain ⟨l, vs, ds, e1, e2, e0, e5, e3, e4⟩ := q
    subst e1 e2
    have ex : Ex F' (upd F' l (.lst vs)) := .new e5
    refine w (upd F' l (.lst vs)) H' (.ref l) ⟨G.f.trans ex, G.h, fun c o hc => ?_, fun c o hc => ?_⟩ (Rep.lst upd_same (e4.mono ex))
    · by_cases q : c = l
      · subst q; rw [upd_same] at hc; rw [← hc]; exact e3
      · rw [upd_ne q] at hc; exact G.i c o hc
    · rw [upd_ne (ne_of_none hc e0)]
      exact G.n c o hc⟩

/-! ### names and constants -/
def eVar (i : Nat) : Ro → EM D := fun ρ => match ρ[i]? with
  | some (.fz d) => ok d
  | _ => none
/-- .. of a list of one's own, read -/
def eVarB (i : Nat) : Ro → EM D := fun ρ => match ρ[i]? with
  | some (.fz d) => ok d
  | some (.ow ds) => ok (.lst ds)
  | _ => none
def eC (d : D) : Ro → EM D := fun _ => ok d
theorem pk_var {i : Nat} (h : PE X a (tVar i)) : PE X a (tK X.K x .fz (eVar i)) := pe_wk h fun σ H Q ⟨F, ρ, r, S, e, w⟩ => by
  unfold eVar at e
  cases er : ρ[i]? with
  | none => rw [er] at e; cases e
  | some u =>
    rw [er] at e
    cases u with
    | un => cases e
    | ow ds => cases e
    | tk n => cases e
    | fz d =>
      cases (Option.some.inj e)
      obtain ⟨v, h1, h2⟩ := S.fz i d er
      exact ⟨v, h1, w F H v (.refl S.fh) h2⟩
theorem pk_varB {i : Nat} (h : PE X a (tVar i)) : PE X a (tK X.K x .bw (eVarB i)) := pe_wk h fun σ H Q ⟨F, ρ, r, S, e, w⟩ => by
  unfold eVarB at e
  cases er : ρ[i]? with
  | none => rw [er] at e; cases e
  | some u =>
    rw [er] at e
    cases u with
    | un => cases e
    | tk n => cases e
    | ow ds =>
      cases (Option.some.inj e)
      obtain ⟨l, vs, h1, h2, h3, h4, h5⟩ := S.ow i ds er
      exact ⟨_, h1, w F H _ (.refl S.fh) (.inr ⟨l, vs, ds, rfl, rfl, h4, h5⟩)⟩
    | fz d =>
      cases (Option.some.inj e)
      obtain ⟨v, h1, h2⟩ := S.fz i d er
      exact ⟨v, h1, w F H v (.refl S.fh) (.inl h2)⟩
theorem pk_c {v : V} {d : D} (h : PE X a (tC v)) (r : ∀ F, Rep X.K x.A F v d) : PE X a (tK X.K x .fz (eC d)) := pe_wk h fun σ H Q ⟨F, ρ, q, S, e, w⟩ => by
  cases (Option.some.inj e)
  exact w F H v (.refl S.fh) (r F)
theorem pk_int {i : Int} {j pos} : PE X (.Constant (.int i) j pos) (tK X.K x .fz (eC (.int i))) := pk_c pe_int fun _ => .int i
theorem pk_str {i : Str} {j pos} : PE X (.Constant (.str i) j pos) (tK X.K x .fz (eC (.str i))) := pk_c pe_str fun _ => .str i
theorem pk_bl {i : Bool} {j pos} : PE X (.Constant (.bool i) j pos) (tK X.K x .fz (eC (.bl i))) := pk_c pe_bl fun _ => .bl i
theorem pk_non {j pos} : PE X (.Constant .none j pos) (tK X.K x .fz (eC .non)) := pk_c pe_non fun _ => .non

/-! ### arguments -/
def aNil : Ro → EM (List D) := fun _ => ok []
def aCons (f : Ro → EM D) (g : Ro → EM (List D)) : Ro → EM (List D) := fun ρ => bnd (f ρ) fun d => bnd (g ρ) fun ds => ok (d :: ds)
theorem pka_nil : PA X [] (tA X.K x k aNil) := pa_wk pa_nil fun σ H Q ⟨F, ρ, q, S, e, w⟩ => by
  cases (Option.some.inj e)
  exact w F H [] (.refl S.fh) .nil
theorem pka_cons {es : List Expr} {fs : Ro → EM (List D)} (ha : PE X a (tK X.K x k f)) (hs : PA X es (tA X.K x k fs)) (he : starEach (a :: es) X.env = (false, eval a X.env) :: starEach es X.env := by rfl) :
    PA X (a :: es) (tA X.K x k (aCons f fs)) := pa_wk (pa_cons ha hs he) fun σ H Q ⟨F, ρ, r, S, e, w⟩ =>
  tk_step S e (fun y h => by subst h; exact w) fun d F1 H1 v G1 S1 r1 e1 =>
    ta_step S1 e1 (fun y h => by subst h; exact Wx.grow (K := X.K) G1 w) fun ds F2 H2 vs G2 S2 r2 e2 => by
      cases (Option.some.inj e2)
      exact w F2 H2 _ (G1.trans G2) (.cons (r1.grow G2) (r2.old G1.h))

/-! ### blocks, ifs, returns -/
def sSeq (g1 g2 : Ro → Option Fl) : Ro → Option Fl := fun ρ => match g1 ρ with
  | some (.nx ρ') => g2 ρ'
  | o => o
def sNil : Ro → Option Fl := fun ρ => some (.nx ρ)
theorem pks_nil : PSs X [] (tS X.K x sNil) := pss_wk pss_nil fun E σ H ⟨F, ρ, fl, S, e, w⟩ => by
  cases (Option.some.inj e)
  exact w F H σ (.refl _) S
theorem pks_cons {st : Stmt} {rest : List Stmt} {g1 g2 : Ro → Option Fl} (h1 : PS X st (tS X.K x g1)) (h2 : PSs X rest (tS X.K x g2)) : PSs X (st :: rest) (tS X.K x (sSeq g1 g2)) :=
  pss_wk (pss_cons h1 h2) fun E σ H ⟨F, ρ, fl, S, e, w⟩ => by
    unfold sSeq at e
    cases eg : g1 ρ with
    | none => rw [eg] at e; cases e
    | some f1 =>
      rw [eg] at e
      cases f1 with
      | nx ρ' => exact ⟨F, ρ, .nx ρ', S, eg, fun F' H' σ' G S' => ⟨F', ρ', fl, S', e, w.mono G⟩⟩
      | rt d => cases (Option.some.inj e); exact ⟨F, ρ, _, S, eg, w⟩
      | rto d => cases (Option.some.inj e); exact ⟨F, ρ, _, S, eg, w⟩
      | bk d => cases (Option.some.inj e); exact ⟨F, ρ, _, S, eg, w⟩
      | ct d => cases (Option.some.inj e); exact ⟨F, ρ, _, S, eg, w⟩
      | ex y d => cases (Option.some.inj e); exact ⟨F, ρ, _, S, eg, w⟩
theorem pks_one {st : Stmt} {g1 : Ro → Option Fl} (h1 : PS X st (tS X.K x g1)) : PSs X [st] (tS X.K x g1) := pss_one h1
/-- an expression, then what it gives goes on -/
def toS {α : Type} (ρ : Ro) (m : EM α) (g : α → Option Fl) : Option Fl := match m with
  | none => none
  | some (.error e) => some (.ex e ρ)
  | some (.ok a) => g a
def sIf (c : Ro → EM Bool) (g1 g2 : Ro → Option Fl) : Ro → Option Fl := fun ρ => toS ρ (c ρ) fun b => if b = true then g1 ρ else g2 ρ
theorem pks_if {c : Expr} {s1 s2 : List Stmt} {fc : Ro → EM Bool} {g1 g2 : Ro → Option Fl} (hc : PT X c (tT X.K x fc)) (h1 : PSs X s1 (tS X.K x g1)) (h2 : PSs X s2 (tS X.K x g2)) : PS X (.If c s1 s2 pos) (tS X.K x (sIf fc g1 g2)) :=
  ps_wk (ps_if hc h1 h2) fun E σ H ⟨F, ρ, fl, S, e, w⟩ => by
    unfold sIf toS at e
    cases ec : fc ρ with
    | none => rw [ec] at e; cases e
    | some r =>
      rw [ec] at e
      cases r with
      | error y => cases (Option.some.inj e); exact ⟨F, ρ, _, S, ec, WdS.wx S w⟩
      | ok b =>
        refine ⟨F, ρ, _, S, ec, fun F' H' G => ?_⟩
        cases b with
        | true => exact ⟨F', ρ, fl, S.grow G, by simpa using e, w.mono G.f⟩
        | false => exact ⟨F', ρ, fl, S.grow G, by simpa using e, w.mono G.f⟩
/-- a statement that begins with an expression -/
theorem ts_step {f : Ro → EM D} {g : D → Option Fl} {fl : Fl} {F H : Hp} {σ : L2.St} {ρ : Ro} {E : Ends} {Q : VK} (S : SR X.K x.A x.T x.B x.F0 F H σ ρ) (e : toS ρ (f ρ) g = some fl) (w : WdS X.K x fl F E)
    (hk : ∀ d F' H' v, Grow F H F' H' → SR X.K x.A x.T x.B x.F0 F' H' σ ρ → RK X.K x.A k F' H H' v d → g d = some fl → WdS X.K x fl F' E → Q v H') : tK X.K x k f σ H Q := by
  unfold toS at e
  cases ef : f ρ with
  | none => rw [ef] at e; cases e
  | some q =>
    rw [ef] at e
    cases q with
    | error y =>
      cases (Option.some.inj e)
      exact ⟨F, ρ, .error y, S, ef, WdS.wx S w⟩
    | ok d => exact ⟨F, ρ, .ok d, S, ef, fun F' H' v G r' => hk d F' H' v G (S.grow G) r' e (w.mono G.f)⟩
theorem SR.out {K : PySem.W.Frag} {A : Ad} {T : Nat → V} {B F0 F H : Hp} {σ : L2.St} {ρ : Ro} (S : SR K A T B F0 F H σ ρ) : Grow F0 B F H := ⟨S.f0, S.bh, S.fh, S.nw⟩
def sRet (f : Ro → EM D) : Ro → Option Fl := fun ρ => toS ρ (f ρ) fun d => some (.rt d)
theorem pks_ret (h : PE X a (tK X.K x .fz f)) : PS X (.Return (some a) pos) (tS X.K x (sRet f)) := ps_wk (ps_ret h) fun E σ H ⟨F, ρ, fl, S, e, w⟩ =>
  ts_step S e w fun d F' H' v G S' r e' w' => by
    cases (Option.some.inj e')
    exact w F' H' v S'.out r
/-- a new list is handed back, or a slot's own -/
def sRetO (f : Ro → EM D) : Ro → Option Fl := fun ρ => toS ρ (f ρ) fun d => match d with
  | .lst ds => some (.rto ds)
  | _ => none
theorem pks_retO (h : PE X a (tK X.K x .ow f)) : PS X (.Return (some a) pos) (tS X.K x (sRetO f)) := ps_wk (ps_ret h) fun E σ H ⟨F, ρ, fl, S, e, w⟩ =>
  ts_step S e w fun d F' H' v G S' r e' w' => by
    obtain ⟨l, vs, ds, e1, e2, e0, e5, e3, e4⟩ := r
    subst e1 e2
    cases (Option.some.inj e')
    exact w F' H' l vs S'.out (S.bh.free e0) e5 e3 e4
def sRetV (i : Nat) : Ro → Option Fl := fun ρ => match ρ[i]? with
  | some (.ow ds) => some (.rto ds)
  | _ => none
theorem pks_retV {i : Nat} (h : PE X a (tVar i)) : PS X (.Return (some a) pos) (tS X.K x (sRetV i)) := ps_wk (ps_ret h) fun E σ H ⟨F, ρ, fl, S, e, w⟩ => by
  unfold sRetV at e
  cases er : ρ[i]? with
  | none => rw [er] at e; cases e
  | some u =>
    rw [er] at e
    cases u with
    | un => cases e
    | tk n => cases e
    | fz d => cases e
    | ow ds =>
      cases (Option.some.inj e)
      obtain ⟨l, vs, h1, h2, h3, h4, h5⟩ := S.ow i ds er
      exact ⟨_, h1, w F H l vs S.out h3 h2 h4 h5⟩
def sRetN : Ro → Option Fl := fun _ => some (.rt .non)
theorem pks_retN : PS X (.Return none pos) (tS X.K x sRetN) := ps_wk ps_retN fun E σ H ⟨F, ρ, fl, S, e, w⟩ => by
  cases (Option.some.inj e)
  exact w F H .non S.out .non
def sPass : Ro → Option Fl := fun ρ => some (.nx ρ)
theorem pks_pass : PS X (.Pass pos) (tS X.K x sPass) := ps_wk ps_pass fun E σ H ⟨F, ρ, fl, S, e, w⟩ => by
  cases (Option.some.inj e)
  exact w F H σ (.refl _) S
def sBreak : Ro → Option Fl := fun ρ => some (.bk ρ)
def sCont : Ro → Option Fl := fun ρ => some (.ct ρ)
theorem pks_break : PS X (.Break pos) (tS X.K x sBreak) := ps_wk ps_break fun E σ H ⟨F, ρ, fl, S, e, w⟩ => by
  cases (Option.some.inj e)
  exact w F H σ (.refl _) S
theorem pks_cont : PS X (.Continue pos) (tS X.K x sCont) := ps_wk ps_continue fun E σ H ⟨F, ρ, fl, S, e, w⟩ => by
  cases (Option.some.inj e)
  exact w F H σ (.refl _) S
theorem pks_doc {z j pos pos'} : PS X (.Expr (.Constant (.str z) j pos) pos') (tS X.K x sPass) := ps_wk ps_doc fun E σ H ⟨F, ρ, fl, S, e, w⟩ => by
  cases (Option.some.inj e)
  exact w F H σ (.refl _) S
/-- what is never come to -/
def sNo : Ro → Option Fl := fun _ => none
theorem pks_never {st : Stmt} : PS X st (tS X.K x sNo) := ps_wk ps_never fun E σ H ⟨F, ρ, fl, S, e, w⟩ => nomatch e
/-- a list of one's own is frozen ahead of a statement -/
def frz (i : Nat) (g : Ro → Option Fl) : Ro → Option Fl := fun ρ => match ρ[i]? with
  | some (.ow ds) => g (ρ.set i (.fz (.lst ds)))
  | some (.fz _) => g ρ
  | _ => none
theorem frz_ok {i : Nat} {g : Ro → Option Fl} {E : Ends} {σ : L2.St} {H : Hp} (h : tS X.K x (frz i g) E σ H) : tS X.K x g E σ H := by
  obtain ⟨F, ρ, fl, S, e, w⟩ := h
  unfold frz at e
  cases er : ρ[i]? with
  | none => rw [er] at e; cases e
  | some u =>
    rw [er] at e
    cases u with
    | un => cases e
    | tk n => cases e
    | fz d => exact ⟨F, ρ, fl, S, e, w⟩
    | ow ds =>
      obtain ⟨F', ex, S'⟩ := S.freeze er
      exact ⟨F', _, fl, S', e, w.mono ex⟩
theorem pks_frz {st : Stmt} {i : Nat} {g : Ro → Option Fl} (h : PS X st (tS X.K x g)) : PS X st (tS X.K x (frz i g)) := ps_wk h fun E σ H q => frz_ok q

/-! ### stores -/
def sSet (i : Nat) (f : Ro → EM D) : Ro → Option Fl := fun ρ => toS ρ (f ρ) fun d => some (.nx (ρ.set i (.fz d)))
theorem tsAsg {i : Nat} {E : Ends} {σ : L2.St} {H : Hp} (h : tS X.K x (sSet i f) E σ H) : tAsg (tK X.K x .fz f) (gName i) E σ H := by
  obtain ⟨F, ρ, fl, S, e, w⟩ := h
  exact ts_step S e w fun d F' H' v G S' r e' w' => by
    cases (Option.some.inj e')
    exact w' F' H' _ (.refl _) (S'.setF r)
theorem pks_set {i : Nat} {st : Stmt} (h : ∀ te, PE X a te → PS X st (tAsg te (gName i))) (he : PE X a (tK X.K x .fz f)) : PS X st (tS X.K x (sSet i f)) := ps_wk (h _ he) fun E σ H q => tsAsg q
/-- a new list to a slot -/
def sSetO (i : Nat) (f : Ro → EM D) : Ro → Option Fl := fun ρ => toS ρ (f ρ) fun d => match d with
  | .lst ds => some (.nx (ρ.set i (.ow ds)))
  | _ => none
theorem SR.setNew {K : PySem.W.Frag} {A : Ad} {T : Nat → V} {B F0 F H F' H' : Hp} {σ : L2.St} {ρ : Ro} {i : Nat} {l : Addr} {vs : List V} {ds : List D} (S : SR K A T B F0 F H σ ρ) (S' : SR K A T B F0 F' H' σ ρ) (e0 : H l = none) (e5 : F' l = none) (e3 : H' l = some (.lst vs)) (e4 : RepL K A F' vs ds) :
    SR K A T B F0 F' H' (σ.set i (some (.ref l))) (ρ.set i (.ow ds)) := S'.setO e5 (S.bh.free e0) e3 e4 fun j es _ hj z => by
  obtain ⟨l', vs', q1, _, _, q4, _⟩ := S.ow j es hj
  rw [q1] at z
  cases z
  rw [e0] at q4
  cases q4
theorem tsAsgO {i : Nat} {E : Ends} {σ : L2.St} {H : Hp} (h : tS X.K x (sSetO i f) E σ H) : tAsg (tK X.K x .ow f) (gName i) E σ H := by
  obtain ⟨F, ρ, fl, S, e, w⟩ := h
  exact ts_step S e w fun d F' H' v G S' r e' w' => by
    obtain ⟨l, vs, ds, e1, e2, e0, e5, e3, e4⟩ := r
    subst e1 e2
    cases (Option.some.inj e')
    exact w' F' H' _ (.refl _) (S.setNew S' e0 e5 e3 e4)
theorem pks_setO {i : Nat} {st : Stmt} (h : ∀ te, PE X a te → PS X st (tAsg te (gName i))) (he : PE X a (tK X.K x .ow f)) : PS X st (tS X.K x (sSetO i f)) := ps_wk (h _ he) fun E σ H q => tsAsgO q
/-- a slot's list goes to another slot -/
def sMove (i j : Nat) : Ro → Option Fl := fun ρ => match ρ[j]? with
  | some (.ow ds) => if i = j then none else some (.nx ((ρ.set j .un).set i (.ow ds)))
  | some (.fz d) => some (.nx (ρ.set i (.fz d)))
  | _ => none
theorem tsMove {i j : Nat} {E : Ends} {σ : L2.St} {H : Hp} (h : tS X.K x (sMove i j) E σ H) : tAsg (tVar j) (gName i) E σ H := by
  obtain ⟨F, ρ, fl, S, e, w⟩ := h
  unfold sMove at e
  cases er : ρ[j]? with
  | none => rw [er] at e; cases e
  | some u =>
    rw [er] at e
    cases u with
    | un => cases e
    | tk n => cases e
    | fz d =>
      cases (Option.some.inj e)
      obtain ⟨v, h1, h2⟩ := S.fz j d er
      exact ⟨v, h1, w F H _ (.refl _) (S.setF h2)⟩
    | ow ds =>
      simp only at e
      by_cases hij : i = j
      · rw [if_pos hij] at e; cases e
      · rw [if_neg hij] at e
        cases (Option.some.inj e)
        obtain ⟨l, vs, h1, h2, h3, h4, h5⟩ := S.ow j ds er
        refine ⟨_, h1, w F H _ (.refl _) ((S.drop (i := j)).setO h2 h3 h4 h5 fun m es hm hm' z => ?_)⟩
        rcases set_get hm' with ⟨rfl, q⟩ | ⟨q, hm2⟩
        · cases q
        · exact S.sep m j es ds q hm2 er (by rw [z, h1])
theorem pks_move {i j : Nat} {st : Stmt} (h : ∀ te, PE X a te → PS X st (tAsg te (gName i))) (he : PE X a (tVar j)) : PS X st (tS X.K x (sMove i j)) := ps_wk (h _ he) fun E σ H q => tsMove q
end
end Tw
/-! TwB: operators, comparisons, subscripts, built-ins over data. -/
namespace Tw
open PySem PySem.Spec PyProof.Rows L2

/-! ### the ends of an operation -/
section
variable {K : PySem.W.Frag} {x : Fx} {k : Kd} {F H : Hp} {σ : L2.St} {Q : VK} {d : D} {ds : List D} {v : V} {vs : List V}
theorem Wd.val (w : Wd K x k (.ok d) F H σ Q) (e : Ex F H) (r : Rep K x.A F v d) (hk : k ≠ .ow) : Q v H := by
  cases k with
  | fz => exact w F H v (.refl e) r
  | bw => exact w F H v (.refl e) (.inl r)
  | ow => exact absurd rfl hk
theorem Wd.newL (w : Wd K x k (.ok (.lst ds)) F H σ Q) (e : Ex F H) (r : RepL K x.A F vs ds) : ∀ p, H p = none → Q (.ref p) (upd H p (.lst vs)) := fun p hp => by
  have fr := Grow.new (o := .lst vs) e hp
  cases k with
  | fz => exact w _ _ _ fr (Rep.lst upd_same (r.mono fr.f))
  | bw => exact w _ _ _ fr (.inl (Rep.lst upd_same (r.mono fr.f)))
  | ow => exact w _ _ _ (Grow.raw e hp) ⟨p, vs, ds, rfl, rfl, hp, e.free hp, upd_same, r⟩
theorem Wd.newT (w : Wd K x k (.ok (.tup ds)) F H σ Q) (e : Ex F H) (r : RepL K x.A F vs ds) (hk : k ≠ .ow) : ∀ p, H p = none → Q (.ref p) (upd H p (.tup vs)) := fun p hp => by
  have fr := Grow.new (o := .tup vs) e hp
  cases k with
  | fz => exact w _ _ _ fr (Rep.tup upd_same (r.mono fr.f))
  | bw => exact w _ _ _ fr (.inl (Rep.tup upd_same (r.mono fr.f)))
  | ow => exact absurd rfl hk
end

/-! ### two places -/
def Op2 (K : PySem.W.Frag) (x : Fx) (k : Kd) (r : R2) (h : D → D → EM D) : Prop := ∀ (F H : Hp) (σ : L2.St) (v u : V) (d e : D) (q : D) (Q : VK),
  Ex F H → RK K x.A .bw F H H v d → RK K x.A .bw F H H u e → h d e = some (.ok q) → Wd K x k (.ok q) F H σ Q → r v u H Q
def eOp (h : D → D → EM D) (f g : Ro → EM D) : Ro → EM D := fun ρ => bnd (f ρ) fun d => bnd (g ρ) fun e => h d e
def NoX (h : D → D → EM D) : Prop := ∀ d e y, h d e ≠ some (.error y)
section
variable {X : Cx} {x : Fx} {f g : Ro → EM D} {k : Kd} {a b : Expr} {pos : Pos} {r : R2} {h : D → D → EM D}
theorem tk_op (hr : Op2 X.K x k r h) (hn : NoX h) {σ : L2.St} {H : Hp} {Q : VK} (q : tK X.K x k (eOp h f g) σ H Q) : tOp r (tK X.K x .bw f) (tK X.K x .bw g) σ H Q := by
  obtain ⟨F, ρ, z, S, e, w⟩ := q
  refine tk_step S e w.x fun d F1 H1 v G1 S1 r1 e1 => tk_step S1 e1 (fun y hy => Wx.grow (K := X.K) G1 (w.x y hy)) fun c F2 H2 u G2 S2 r2 e2 => ?_
  cases z with
  | error y => exact absurd e2 (hn d c y)
  | ok z => exact hr F2 H2 σ v u d c z Q S2.fh (r1.grow G2) r2 e2 (w.grow (G1.trans G2))
theorem pk_op {op : Operator} (ho : OpR X (binaryOp op) r) (hr : Op2 X.K x k r h) (hn : NoX h) (ha : PE X a (tK X.K x .bw f)) (hb : PE X b (tK X.K x .bw g)) : PE X (.BinOp a op b pos) (tK X.K x k (eOp h f g)) := pe_wk (pe_op ho ha hb) fun _ _ _ q => tk_op hr hn q
theorem pk_cmp {op : CmpOp} (ho : OpR X (compareOp op) r) (hr : Op2 X.K x k r h) (hn : NoX h) (hm : behindInMarks op b = false) (ha : PE X a (tK X.K x .bw f)) (hb : PE X b (tK X.K x .bw g)) : PE X (.Compare a [op] [b] pos) (tK X.K x k (eOp h f g)) := pe_wk (pe_cmpR ho ha hb hm) fun _ _ _ q => tk_op hr hn q
theorem pk_ixR (ho : IxR X r) (hr : Op2 X.K x k r h) (hn : NoX h) (hs : PlainIx b) (ha : PE X a (tK X.K x .bw f)) (hb : PE X b (tK X.K x .bw g)) : PE X (.Subscript a b pos) (tK X.K x k (eOp h f g)) := pe_wk (pe_ix ho ha hb hs) fun _ _ _ q => tk_op hr hn q
theorem Op2.or {r' : R2} (h1 : ∀ (F H : Hp) (σ : L2.St) (v u : V) (d e : D) (q : D) (Q : VK), Ex F H → RK X.K x.A .bw F H H v d → RK X.K x.A .bw F H H u e → h d e = some (.ok q) → Wd X.K x k (.ok q) F H σ Q → r v u H Q ∨ r' v u H Q) : Op2 X.K x k (fun v u H Q => r v u H Q ∨ r' v u H Q) h := h1
/-- what is no list -/
theorem rk_int {K : PySem.W.Frag} {A : Ad} {F H H0 : Hp} {v : V} {i : Int} (h : RK K A .bw F H0 H v (.int i)) : v = .int i := by
  cases (RK.rep h fun _ z => by cases z)
  rfl
theorem rk_str {K : PySem.W.Frag} {A : Ad} {F H H0 : Hp} {v : V} {i : Str} (h : RK K A .bw F H0 H v (.str i)) : v = .str i := by
  cases (RK.rep h fun _ z => by cases z)
  rfl
theorem rk_bl {K : PySem.W.Frag} {A : Ad} {F H H0 : Hp} {v : V} {i : Bool} (h : RK K A .bw F H0 H v (.bl i)) : v = .bl i := by
  cases (RK.rep h fun _ z => by cases z)
  rfl
theorem rk_non {K : PySem.W.Frag} {A : Ad} {F H H0 : Hp} {v : V} (h : RK K A .bw F H0 H v .non) : v = .non := by
  cases (RK.rep h fun _ z => by cases z)
  rfl
theorem rk_tup {K : PySem.W.Frag} {A : Ad} {F H H0 : Hp} {v : V} {ds : List D} (h : RK K A .bw F H0 H v (.tup ds)) : ∃ a vs, v = .ref a ∧ F a = some (.tup vs) ∧ RepL K A F vs ds := by
  cases (RK.rep h fun _ z => by cases z) with
  | tup h1 r => exact ⟨_, _, rfl, h1, r⟩
theorem rk_scr {K : PySem.W.Frag} {A : Ad} {F H H0 : Hp} {v : V} {ns : List Int} (h : RK K A .bw F H0 H v (.scr ns)) : ∃ a, v = .ref a ∧ SqL K F a (ns.map V.int) := by
  cases (RK.rep h fun _ z => by cases z) with
  | scr h1 => exact ⟨_, rfl, h1⟩

/-! ### arithmetic -/
def dI (C : Int → Int → Bool) (g : Int → Int → Int) : D → D → EM D
  | .int i, .int j => if C i j = true then ok (.int (g i j)) else none
  | _, _ => none
def dB (g : Int → Int → Bool) : D → D → EM D
  | .int i, .int j => ok (.bl (g i j))
  | _, _ => none
theorem nox_I {C : Int → Int → Bool} {g : Int → Int → Int} : NoX (dI C g) := fun d e y q => by
  unfold dI at q
  split at q
  · split at q <;> cases q
  · cases q
theorem nox_B {g : Int → Int → Bool} : NoX (dB g) := fun d e y q => by
  unfold dB at q
  split at q <;> cases q
theorem op2_I {C' : Int → Int → Prop} {C : Int → Int → Bool} {gi : Int → Int → Int} (hC : ∀ i j, C i j = true → C' i j) : Op2 X.K x .fz (rI C' fun i j => .int (gi i j)) (dI C gi) := fun F H σ v u d e q Q ex rv ru hq w => by
  unfold dI at hq
  split at hq
  · split at hq
    · cases (Option.some.inj hq)
      rw [rk_int rv, rk_int ru]
      rename_i i j hc
      exact ⟨_, _, rfl, rfl, hC _ _ hc, w.val ex (.int _) (by decide)⟩
    · cases hq
  · cases hq
theorem op2_I0 {gi : Int → Int → Int} : Op2 X.K x .fz (rI0 fun i j => .int (gi i j)) (dI (fun _ _ => true) gi) := fun F H σ v u d e q Q ex rv ru hq w => by
  unfold dI at hq
  split at hq
  · rw [if_pos rfl] at hq
    cases (Option.some.inj hq)
    rw [rk_int rv, rk_int ru]
    exact ⟨_, _, rfl, rfl, w.val ex (.int _) (by decide)⟩
  · cases hq
theorem op2_B {gi : Int → Int → Bool} : Op2 X.K x .fz (rI0 fun i j => .bl (gi i j)) (dB gi) := fun F H σ v u d e q Q ex rv ru hq w => by
  unfold dB at hq
  split at hq
  · cases (Option.some.inj hq)
    rw [rk_int rv, rk_int ru]
    exact ⟨_, _, rfl, rfl, w.val ex (.bl _) (by decide)⟩
  · cases hq
def cMul (i j : Int) : Bool := (decide (-(2 ^ 64) < i) && decide (i < 2 ^ 64)) || (decide (-(2 ^ 64) < j) && decide (j < 2 ^ 64))
def cDiv (_ j : Int) : Bool := decide (0 < j) && decide (j < 1073741824)
def cPos (_ j : Int) : Bool := decide (0 < j)
def cNn (_ j : Int) : Bool := decide (0 ≤ j)
def cPow (i j : Int) : Bool := decide (0 ≤ j) && (decide (j ≤ 1000000) && decide (i.natAbs < 2 ^ 64))
def dSub := dI (fun _ _ => true) fun i j => i - j
def dMul := dI cMul fun i j => i * j
def dDiv := dI cDiv fun i j => i / j
def dMod := dI cPos fun i j => i % j
def dPow := dI cPow fun i j => i ^ j.toNat
def dShl := dI cPow fun i j => i * 2 ^ j.toNat
def dShr := dI cNn fun i j => i / 2 ^ j.toNat
def dAnd := dI (fun _ _ => true) Builtin.bitAnd
def dOr := dI (fun _ _ => true) Builtin.bitOr
theorem cPow_ok {i j : Int} (h : cPow i j = true) : CPow i j := by
  unfold cPow at h
  simp only [Bool.and_eq_true, decide_eq_true_eq] at h
  exact h
theorem pk_sub (ha : PE X a (tK X.K x .bw f)) (hb : PE X b (tK X.K x .bw g)) : PE X (.BinOp a .Sub b pos) (tK X.K x .fz (eOp dSub f g)) := pk_op op_sub op2_I0 nox_I ha hb
theorem pk_mul (ha : PE X a (tK X.K x .bw f)) (hb : PE X b (tK X.K x .bw g)) : PE X (.BinOp a .Mult b pos) (tK X.K x .fz (eOp dMul f g)) := pk_op op_mul (op2_I fun i j h => by
  unfold cMul at h
  simp only [Bool.or_eq_true, Bool.and_eq_true, decide_eq_true_eq] at h
  exact h) nox_I ha hb
theorem pk_div (ha : PE X a (tK X.K x .bw f)) (hb : PE X b (tK X.K x .bw g)) : PE X (.BinOp a .FloorDiv b pos) (tK X.K x .fz (eOp dDiv f g)) := pk_op op_fdiv (op2_I fun i j h => by
  unfold cDiv at h
  simp only [Bool.and_eq_true, decide_eq_true_eq] at h
  exact h) nox_I ha hb
theorem pk_mod (ha : PE X a (tK X.K x .bw f)) (hb : PE X b (tK X.K x .bw g)) : PE X (.BinOp a .Mod b pos) (tK X.K x .fz (eOp dMod f g)) := pk_op op_mod (op2_I fun i j h => of_decide_eq_true h) nox_I ha hb
theorem pk_pow (ha : PE X a (tK X.K x .bw f)) (hb : PE X b (tK X.K x .bw g)) : PE X (.BinOp a .Pow b pos) (tK X.K x .fz (eOp dPow f g)) := pk_op op_pow (op2_I fun i j h => cPow_ok h) nox_I ha hb
theorem pk_shl (ha : PE X a (tK X.K x .bw f)) (hb : PE X b (tK X.K x .bw g)) : PE X (.BinOp a .LShift b pos) (tK X.K x .fz (eOp dShl f g)) := pk_op op_shl (op2_I fun i j h => cPow_ok h) nox_I ha hb
theorem pk_shr (ha : PE X a (tK X.K x .bw f)) (hb : PE X b (tK X.K x .bw g)) : PE X (.BinOp a .RShift b pos) (tK X.K x .fz (eOp dShr f g)) := pk_op op_shr (op2_I fun i j h => of_decide_eq_true h) nox_I ha hb
theorem pk_and (ha : PE X a (tK X.K x .bw f)) (hb : PE X b (tK X.K x .bw g)) : PE X (.BinOp a .BitAnd b pos) (tK X.K x .fz (eOp dAnd f g)) := pk_op op_and op2_I0 nox_I ha hb
theorem pk_or (ha : PE X a (tK X.K x .bw f)) (hb : PE X b (tK X.K x .bw g)) : PE X (.BinOp a .BitOr b pos) (tK X.K x .fz (eOp dOr f g)) := pk_op op_or op2_I0 nox_I ha hb

/-! ### + -/
/-- ints, texts, tuples -/
def dAdd : D → D → EM D
  | .int i, .int j => ok (.int (i + j))
  | .str i, .str j => if i.length + j.length ≤ sizeLine then ok (.str (i ++ j)) else none
  | .tup xs, .tup ys => if xs.length + ys.length ≤ sizeLine then ok (.tup (xs ++ ys)) else none
  | _, _ => none
/-- lists -/
def dCat : D → D → EM D
  | .lst xs, .lst ys => if xs.length + ys.length ≤ sizeLine then ok (.lst (xs ++ ys)) else none
  | _, _ => none
theorem nox_add : NoX dAdd := fun d e y q => by
  unfold dAdd at q
  split at q
  · cases q
  · split at q <;> cases q
  · split at q <;> cases q
  · cases q
theorem nox_cat : NoX dCat := fun d e y q => by
  unfold dCat at q
  split at q
  · split at q <;> cases q
  · cases q
theorem op2_cat : Op2 X.K x k rCat dCat := fun F H σ v u d e q Q ex rv ru hq w => by
  unfold dCat at hq
  split at hq
  · split at hq
    · rename_i hz
      cases (Option.some.inj hq)
      obtain ⟨p, vs, rfl, h1, q1⟩ := rv.lst ex
      obtain ⟨p', vs', rfl, h2, q2⟩ := ru.lst ex
      refine ⟨_, _, _, _, rfl, rfl, h1, h2, by rw [q1.length, q2.length]; exact hz, w.newL ex (q1.app q2)⟩
    · cases hq
  · cases hq
theorem pk_cat (ha : PE X a (tK X.K x .bw f)) (hb : PE X b (tK X.K x .bw g)) : PE X (.BinOp a .Add b pos) (tK X.K x k (eOp dCat f g)) := pk_op op_cat op2_cat nox_cat ha hb
theorem op2_add : Op2 X.K x .fz (fun v u H Q => (rI0 fun i j => .int (i + j)) v u H Q ∨ ((∃ i j, v = .str i ∧ u = .str j ∧ i.length + j.length ≤ sizeLine ∧ Q (.str (i ++ j)) H) ∨ rCatA X.K v u H Q)) dAdd := fun F H σ v u d e q Q ex rv ru hq w => by
  unfold dAdd at hq
  split at hq
  · cases (Option.some.inj hq)
    rw [rk_int rv, rk_int ru]
    exact .inl ⟨_, _, rfl, rfl, w.val ex (.int _) (by decide)⟩
  · split at hq
    · rename_i hz
      cases (Option.some.inj hq)
      rw [rk_str rv, rk_str ru]
      exact .inr (.inl ⟨_, _, rfl, rfl, hz, w.val ex (.str _) (by decide)⟩)
    · cases hq
  · split at hq
    · rename_i xs ys hz
      cases (Option.some.inj hq)
      obtain ⟨p, vs, rfl, h1, q1⟩ := rk_tup rv
      obtain ⟨p', vs', rfl, h2, q2⟩ := rk_tup ru
      refine .inr (.inr ⟨_, _, _, _, rfl, rfl, .of (ex _ _ h1), .of (ex _ _ h2), by rw [q1.length, q2.length]; exact hz, fun e0 => ?_, fun _ e0 => ?_, fun _ _ => w.newT ex (q1.app q2) (by decide)⟩)
      · subst e0
        cases q1
        exact w.val ex (.tup h2 q2) (by decide)
      · subst e0
        cases q2
        rw [List.append_nil] at w
        exact w.val ex (.tup h1 q1) (by decide)
    · cases hq
  · cases hq
theorem pk_add (ha : PE X a (tK X.K x .bw f)) (hb : PE X b (tK X.K x .bw g)) : PE X (.BinOp a .Add b pos) (tK X.K x .fz (eOp dAdd f g)) := pk_op (op_add.or (op_add_str.or op_catA)) op2_add nox_add ha hb
/-- [..] * n -/
def dRep : D → D → EM D
  | .lst xs, .int n => if -(2 ^ 63) ≤ n ∧ n < 2 ^ 63 ∧ xs.length * n.toNat ≤ sizeLine then ok (.lst (List.replicate n.toNat xs).flatten) else none
  | _, _ => none
theorem nox_rep : NoX dRep := fun d e y q => by
  unfold dRep at q
  split at q
  · split at q <;> cases q
  · cases q
theorem RepL.rep {K : PySem.W.Frag} {A : Ad} {H : Hp} {vs : List V} {ds : List D} (r : RepL K A H vs ds) : ∀ n : Nat, RepL K A H (List.replicate n vs).flatten (List.replicate n ds).flatten
  | 0 => .nil
  | n + 1 => by
    rw [List.replicate_succ, List.replicate_succ, List.flatten_cons, List.flatten_cons]
    exact r.app (RepL.rep r n)
theorem op2_rep : Op2 X.K x k rRep dRep := fun F H σ v u d e q Q ex rv ru hq w => by
  unfold dRep at hq
  split at hq
  · split at hq
    · rename_i hz
      cases (Option.some.inj hq)
      obtain ⟨p, vs, rfl, h1, q1⟩ := rv.lst ex
      rw [rk_int ru]
      refine ⟨_, _, _, rfl, rfl, h1, hz.1, hz.2.1, by rw [q1.length]; exact hz.2.2, w.newL ex (q1.rep _)⟩
    · cases hq
  · cases hq
theorem pk_rep (ha : PE X a (tK X.K x .bw f)) (hb : PE X b (tK X.K x .bw g)) : PE X (.BinOp a .Mult b pos) (tK X.K x k (eOp dRep f g)) := pk_op op_rep op2_rep nox_rep ha hb

/-! ### comparisons -/
def dLt := dB fun i j => decide (i < j)
def dLe := dB fun i j => decide (i ≤ j)
def dGt := dB fun i j => decide (j < i)
def dGe := dB fun i j => decide (j ≤ i)
theorem pk_lt (ha : PE X a (tK X.K x .bw f)) (hb : PE X b (tK X.K x .bw g)) : PE X (.Compare a [.Lt] [b] pos) (tK X.K x .fz (eOp dLt f g)) := pk_cmp op_lt op2_B nox_B (nomark _) ha hb
theorem pk_le (ha : PE X a (tK X.K x .bw f)) (hb : PE X b (tK X.K x .bw g)) : PE X (.Compare a [.LtE] [b] pos) (tK X.K x .fz (eOp dLe f g)) := pk_cmp op_le op2_B nox_B (nomark _) ha hb
theorem pk_gt (ha : PE X a (tK X.K x .bw f)) (hb : PE X b (tK X.K x .bw g)) : PE X (.Compare a [.Gt] [b] pos) (tK X.K x .fz (eOp dGt f g)) := pk_cmp op_gt op2_B nox_B (nomark _) ha hb
theorem pk_ge (ha : PE X a (tK X.K x .bw f)) (hb : PE X b (tK X.K x .bw g)) : PE X (.Compare a [.GtE] [b] pos) (tK X.K x .fz (eOp dGe f g)) := pk_cmp op_ge op2_B nox_B (nomark _) ha hb
mutual
def py : D → PyData
  | .non => .none
  | .bl b => .bool b
  | .int i => .int i
  | .str x => .str x
  | .lst xs => .list (pyL xs)
  | .tup xs => .tuple (pyL xs)
  | .obj _ _ => .dict []
  | .scr ns => .list (ns.map .int)
  | .ord _ => .dict []
def pyL : List D → List PyData
  | [] => []
  | d :: ds => py d :: pyL ds
end
theorem pyL_map : ∀ ds : List D, pyL ds = ds.map py
  | [] => rfl
  | d :: ds => by unfold pyL; rw [pyL_map ds]; rfl
theorem dpAll_ints {K : PySem.W.Frag} {H : Hp} : ∀ ns : List Int, DpAll K H (ns.map V.int) (ns.map PyData.int)
  | [] => .nil
  | n :: ns => .cons (.int n) (dpAll_ints ns)
mutual
theorem Rep.dp {K : PySem.W.Frag} {A : Ad} {H : Hp} : ∀ {v : V} {d : D}, Rep K A H v d → (py d).canLay0 = true → Dp K H v (py d)
  | _, _, .non, _ => by unfold py; exact .non
  | _, _, .bl b, _ => by unfold py; exact .bl b
  | _, _, .int b, _ => by unfold py; exact .int b
  | _, _, .str b, _ => by unfold py; exact .str b
  | _, _, .lst h r, c => by
    unfold py at c ⊢
    exact .lst (.of h) (RepL.dp r (by unfold PyData.canLay0 at c; exact c))
  | _, _, .tup h r, c => by
    unfold py at c ⊢
    exact .tup (.of h) (RepL.dp r (by unfold PyData.canLay0 at c; exact c))
  | _, _, .obj _ h l r, c => by
    unfold py at c
    unfold PyData.canLay0 at c
    cases c
  | _, _, .scr h, _ => by
    unfold py
    exact .lst h (dpAll_ints _)
  | _, _, .ord h, c => by
    unfold py at c
    unfold PyData.canLay0 at c
    cases c
theorem RepL.dp {K : PySem.W.Frag} {A : Ad} {H : Hp} : ∀ {vs : List V} {ds : List D}, RepL K A H vs ds → PyData.canLayAll0 (pyL ds) = true → DpAll K H vs (pyL ds)
  | _, _, .nil, _ => by unfold pyL; exact .nil
  | _, _, .cons h r, c => by
    unfold pyL at c ⊢
    unfold PyData.canLayAll0 at c
    simp only [Bool.and_eq_true] at c
    exact .cons (Rep.dp h c.1) (RepL.dp r c.2)
end
/-- what == tells of scalars -/
def scalD : D → D → Option Bool
  | .non, .non => some true
  | .non, .int _ => some false
  | .int _, .non => some false
  | .non, .bl _ => some false
  | .bl _, .non => some false
  | .non, .str _ => some false
  | .str _, .non => some false
  | .int i, .int j => some (decide (i = j))
  | .bl i, .bl j => some (decide (i = j))
  | .str i, .str j => some (decide (i = j))
  | .int _, .str _ => some false
  | .str _, .int _ => some false
  | .bl _, .str _ => some false
  | .str _, .bl _ => some false
  | _, _ => none
/-- whether data may be compared -/
def fit (d : D) : Bool := SeqAt.shaped (py d)
def dEq (d e : D) : EM D := match scalD d e with
  | some b => ok (.bl b)
  | none => if fit d = true ∧ fit e = true then ok (.bl (PyData.eqv (py d) (py e))) else none
def dNe (d e : D) : EM D := match scalD d e with
  | some b => ok (.bl (!b))
  | none => if fit d = true ∧ fit e = true then ok (.bl (!PyData.eqv (py d) (py e))) else none
theorem nox_eq : NoX dEq := fun d e y q => by
  unfold dEq at q
  split at q
  · cases q
  · split at q <;> cases q
theorem nox_ne : NoX dNe := fun d e y q => by
  unfold dNe at q
  split at q
  · cases q
  · split at q <;> cases q
theorem scal_of {K : PySem.W.Frag} {A : Ad} {F H H0 H1 : Hp} {v u : V} {d e : D} {b : Bool} (rv : RK K A .bw F H0 H v d) (ru : RK K A .bw F H1 H u e) (h : scalD d e = some b) : scal v u = true ∧ b = decide (v = u) := by
  unfold scalD at h
  split at h <;> first
    | (have hb := Option.some.inj h
       subst hb
       first
         | (rw [rk_non rv, rk_non ru]; exact ⟨rfl, by simp⟩)
         | (rw [rk_non rv, rk_int ru]; exact ⟨rfl, by simp⟩)
         | (rw [rk_int rv, rk_non ru]; exact ⟨rfl, by simp⟩)
         | (rw [rk_non rv, rk_bl ru]; exact ⟨rfl, by simp⟩)
         | (rw [rk_bl rv, rk_non ru]; exact ⟨rfl, by simp⟩)
         | (rw [rk_non rv, rk_str ru]; exact ⟨rfl, by simp⟩)
         | (rw [rk_str rv, rk_non ru]; exact ⟨rfl, by simp⟩)
         | (rw [rk_int rv, rk_int ru]; exact ⟨rfl, by simp⟩)
         | (rw [rk_bl rv, rk_bl ru]; exact ⟨rfl, by simp⟩)
         | (rw [rk_str rv, rk_str ru]; exact ⟨rfl, by simp⟩)
         | (rw [rk_int rv, rk_str ru]; exact ⟨rfl, by simp⟩)
         | (rw [rk_str rv, rk_int ru]; exact ⟨rfl, by simp⟩)
         | (rw [rk_bl rv, rk_str ru]; exact ⟨rfl, by simp⟩)
         | (rw [rk_str rv, rk_bl ru]; exact ⟨rfl, by simp⟩))
    | cases h
theorem RK.dp {K : PySem.W.Frag} {A : Ad} {F H H0 : Hp} {v : V} {d : D} (e : Ex F H) (rv : RK K A .bw F H0 H v d) (h : fit d = true) : Dp K H v (py d) := (rv.all e).dp (SeqAt.canLay_of_shaped h)
theorem op2_eq : Op2 X.K x .fz (fun v u H Q => rEq v u H Q ∨ rEqD X.K v u H Q) dEq := fun F H σ v u d e q Q ex rv ru hq w => by
  unfold dEq at hq
  split at hq
  · rename_i b hb
    cases (Option.some.inj hq)
    obtain ⟨h1, h2⟩ := scal_of rv ru hb
    refine .inl ⟨h1, ?_⟩
    rw [← h2]
    exact w.val ex (.bl _) (by decide)
  · split at hq
    · rename_i hf
      cases (Option.some.inj hq)
      exact .inr ⟨_, _, rv.dp ex hf.1, ru.dp ex hf.2, hf.1, hf.2, w.val ex (.bl _) (by decide)⟩
    · cases hq
theorem op2_ne : Op2 X.K x .fz (fun v u H Q => rNe v u H Q ∨ rNeD X.K v u H Q) dNe := fun F H σ v u d e q Q ex rv ru hq w => by
  unfold dNe at hq
  split at hq
  · rename_i b hb
    cases (Option.some.inj hq)
    obtain ⟨h1, h2⟩ := scal_of rv ru hb
    refine .inl ⟨h1, ?_⟩
    rw [← h2]
    exact w.val ex (.bl _) (by decide)
  · split at hq
    · rename_i hf
      cases (Option.some.inj hq)
      exact .inr ⟨_, _, rv.dp ex hf.1, ru.dp ex hf.2, hf.1, hf.2, w.val ex (.bl _) (by decide)⟩
    · cases hq
theorem pk_eq (hu : X.A.units + 64 < cLine) (ha : PE X a (tK X.K x .bw f)) (hb : PE X b (tK X.K x .bw g)) : PE X (.Compare a [.Eq] [b] pos) (tK X.K x .fz (eOp dEq f g)) := pk_cmp (op_eq.or (op_eqD hu)) op2_eq nox_eq (nomark _) ha hb
theorem pk_ne (hu : X.A.units + 64 < cLine) (ha : PE X a (tK X.K x .bw f)) (hb : PE X b (tK X.K x .bw g)) : PE X (.Compare a [.NotEq] [b] pos) (tK X.K x .fz (eOp dNe f g)) := pk_cmp (op_ne.or (op_neD hu)) op2_ne nox_ne (nomark _) ha hb
/-- in a list -/
def dIn (d e : D) : EM D := match e with
  | .lst es => if fit d = true ∧ fit (.lst es) = true then ok (.bl ((pyL es).any fun z => PyData.eqv z (py d))) else none
  | _ => none
def dNin (d e : D) : EM D := match e with
  | .lst es => if fit d = true ∧ fit (.lst es) = true then ok (.bl (!(pyL es).any fun z => PyData.eqv z (py d))) else none
  | _ => none
theorem nox_in : NoX dIn := fun d e y q => by
  unfold dIn at q
  split at q
  · split at q <;> cases q
  · cases q
theorem nox_nin : NoX dNin := fun d e y q => by
  unfold dNin at q
  split at q
  · split at q <;> cases q
  · cases q
theorem op2_in : Op2 X.K x .fz (rInD X.K) dIn := fun F H σ v u d e q Q ex rv ru hq w => by
  unfold dIn at hq
  split at hq
  · split at hq
    · rename_i hf
      cases (Option.some.inj hq)
      exact ⟨_, _, rv.dp ex hf.1, by have := ru.dp ex hf.2; unfold py at this; exact this, hf.1, by have := hf.2; unfold fit py at this; exact this, w.val ex (.bl _) (by decide)⟩
    · cases hq
  · cases hq
theorem op2_nin : Op2 X.K x .fz (rNotInD X.K) dNin := fun F H σ v u d e q Q ex rv ru hq w => by
  unfold dNin at hq
  split at hq
  · split at hq
    · rename_i hf
      cases (Option.some.inj hq)
      exact ⟨_, _, rv.dp ex hf.1, by have := ru.dp ex hf.2; unfold py at this; exact this, hf.1, by have := hf.2; unfold fit py at this; exact this, w.val ex (.bl _) (by decide)⟩
    · cases hq
  · cases hq
theorem pk_in (hu : X.A.units + 65 < cLine) (hm : behindInMarks .In b = false) (ha : PE X a (tK X.K x .bw f)) (hb : PE X b (tK X.K x .bw g)) : PE X (.Compare a [.In] [b] pos) (tK X.K x .fz (eOp dIn f g)) := pk_cmp (op_inD hu) op2_in nox_in hm ha hb
theorem pk_nin (hu : X.A.units + 65 < cLine) (hm : behindInMarks .NotIn b = false) (ha : PE X a (tK X.K x .bw f)) (hb : PE X b (tK X.K x .bw g)) : PE X (.Compare a [.NotIn] [b] pos) (tK X.K x .fz (eOp dNin f g)) := pk_cmp (op_notInD hu) op2_nin nox_nin hm ha hb
/-- is None -/
def isNon : D → Bool
  | .non => true
  | _ => false
def dIsN (d e : D) : EM D := match e with
  | .non => ok (.bl (isNon d))
  | _ => none
def dNotN (d e : D) : EM D := match e with
  | .non => ok (.bl (!isNon d))
  | _ => none
theorem rk_isNon {K : PySem.W.Frag} {A : Ad} {F H H0 : Hp} {v : V} {d : D} (rv : RK K A .bw F H0 H v d) : decide (v = .non) = isNon d := by
  rcases rv with h | ⟨l, vs, ds, e1, e2, _⟩
  · cases h <;> simp [isNon]
  · subst e1 e2
    simp [isNon]
theorem pk_isN (ha : PE X a (tK X.K x .bw f)) (hb : PE X b (tK X.K x .bw g)) : PE X (.Compare a [.Is] [b] pos) (tK X.K x .fz (eOp dIsN f g)) := pk_cmp op_isN (fun F H σ v u d e q Q ex rv ru hq w => by
  unfold dIsN at hq
  split at hq
  · cases (Option.some.inj hq)
    refine ⟨rk_non ru, ?_⟩
    rw [rk_isNon rv]
    exact w.val ex (.bl _) (by decide)
  · cases hq) (fun d e y q => by
  unfold dIsN at q
  split at q <;> cases q) (nomark _) ha hb
theorem pk_notN (ha : PE X a (tK X.K x .bw f)) (hb : PE X b (tK X.K x .bw g)) : PE X (.Compare a [.IsNot] [b] pos) (tK X.K x .fz (eOp dNotN f g)) := pk_cmp op_notN (fun F H σ v u d e q Q ex rv ru hq w => by
  unfold dNotN at hq
  split at hq
  · cases (Option.some.inj hq)
    refine ⟨rk_non ru, ?_⟩
    rw [rk_isNon rv]
    exact w.val ex (.bl _) (by decide)
  · cases hq) (fun d e y q => by
  unfold dNotN at q
  split at q <;> cases q) (nomark _) ha hb

/-! ### items -/
def dIx : D → D → EM D
  | .lst xs, .int i => (atI xs i).map .ok
  | .tup xs, .int i => (atI xs i).map .ok
  | .scr ns, .int i => (atI ns i).map fun n => .ok (.int n)
  | .str z, .int i => if z.length ≤ sizeLine then (atI z.cps.toList i).map fun c => .ok (.str ⟨#[c]⟩) else none
  | _, _ => none
theorem nox_ix : NoX dIx := fun d e y q => by
  unfold dIx at q
  split at q
  · simp at q
  · simp at q
  · simp at q
  · split at q
    · simp at q
    · cases q
  · cases q
theorem RepL.atI {K : PySem.W.Frag} {A : Ad} {H : Hp} {vs : List V} {ds : List D} {i : Int} {d : D} (r : RepL K A H vs ds) (h : L2.atI ds i = some d) : ∃ v, L2.atI vs i = some v ∧ Rep K A H v d := by
  unfold L2.atI at h ⊢
  rw [r.length]
  cases e : ixN ds.length i with
  | none => rw [e] at h; cases h
  | some j =>
    rw [e] at h
    exact r.get h
theorem atI_map {α β : Type} (fn : α → β) (xs : List α) (i : Int) : L2.atI (xs.map fn) i = (L2.atI xs i).map fn := by
  unfold L2.atI
  rw [List.length_map]
  cases ixN xs.length i with
  | none => rfl
  | some j => simp
theorem op2_ix : Op2 X.K x .fz (rIx X.K) dIx := fun F H σ v u d e q Q ex rv ru hq w => by
  unfold dIx at hq
  split at hq
  · rename_i xs i
    obtain ⟨p, vs, rfl, h1, q1⟩ := rv.lst ex
    rw [rk_int ru]
    cases ea : L2.atI xs i with
    | none => rw [ea] at hq; cases hq
    | some z =>
      rw [ea] at hq
      cases (Option.some.inj hq)
      obtain ⟨y, hy, ry⟩ := q1.atI ea
      exact .inl ⟨_, _, _, _, rfl, rfl, .of h1, hy, w.val ex ry (by decide)⟩
  · rename_i xs i
    obtain ⟨p, vs, rfl, h1, q1⟩ := rk_tup rv
    rw [rk_int ru]
    cases ea : L2.atI xs i with
    | none => rw [ea] at hq; cases hq
    | some z =>
      rw [ea] at hq
      cases (Option.some.inj hq)
      obtain ⟨y, hy, ry⟩ := q1.atI ea
      exact .inr (.inl ⟨_, _, _, _, rfl, rfl, .of (ex _ _ h1), hy, w.val ex ry (by decide)⟩)
  · rename_i ns i
    obtain ⟨p, rfl, h1⟩ := rk_scr rv
    rw [rk_int ru]
    cases ea : L2.atI ns i with
    | none => rw [ea] at hq; cases hq
    | some z =>
      rw [ea] at hq
      cases (Option.some.inj hq)
      exact .inl ⟨_, _, _, _, rfl, rfl, ex.sqL h1, by rw [atI_map, ea]; rfl, w.val ex (.int _) (by decide)⟩
  · rename_i z i
    split at hq
    · rename_i hz
      rw [rk_str rv, rk_int ru]
      cases ea : L2.atI z.cps.toList i with
      | none => rw [ea] at hq; cases hq
      | some c =>
        rw [ea] at hq
        cases (Option.some.inj hq)
        exact .inr (.inr ⟨_, _, _, rfl, rfl, hz, ea, w.val ex (.str _) (by decide)⟩)
    · cases hq
  · cases hq
theorem pk_ix (hs : PlainIx b) (ha : PE X a (tK X.K x .bw f)) (hb : PE X b (tK X.K x .bw g)) : PE X (.Subscript a b pos) (tK X.K x .fz (eOp dIx f g)) := pk_ixR ix_seq op2_ix nox_ix hs ha hb
end
end Tw
/-! TwC: tests, and or not, chains, displays, slices, attributes, built-ins, methods. -/
namespace Tw
open PySem PySem.Spec PyProof.Rows L2
section
variable {X : Cx} {x : Fx} {f g : Ro → EM D} {k : Kd} {a b c : Expr} {es : List Expr} {pos : Pos} {h h' : D → D → EM D}

/-! ### tests -/
def toB (d : D) : EM Bool := match d with
  | .bl b => ok b
  | _ => none
def bT (f : Ro → EM D) : Ro → EM Bool := fun ρ => bnd (f ρ) toB
theorem toB_nox {d : D} {y : Xn} : toB d ≠ some (.error y) := fun q => by
  unfold toB at q
  split at q <;> cases q
theorem tt_of {σ : L2.St} {H : Hp} {Q : Bool → Hp → Prop} (q : tT X.K x (bT f) σ H Q) : tTest (tK X.K x .bw f) σ H Q := by
  obtain ⟨F, ρ, z, S, e, w⟩ := q
  refine tk_step S e (fun y hy => by subst hy; exact w) fun d F1 H1 v G1 S1 r1 e1 => ?_
  unfold toB at e1
  split at e1
  · cases (Option.some.inj e1)
    exact ⟨_, rk_bl r1, w F1 H1 G1⟩
  · cases e1
/-- an expression whose value is a bool -/
theorem pt_b (ha : PE X a (tK X.K x .bw f)) (he : ∀ whole, isTrue a X.env whole = (do let v ← whole; standAt a.pos; holding [v] (truthy v)) := by intro _; rfl) : PT X a (tT X.K x (bT f)) := pt_wk (pt_val ha he) fun _ _ _ q => tt_of q
theorem pt_c {op : CmpOp} {r : R2} (ho : OpR X (compareOp op) r) (hr : Op2 X.K x .fz r h) (hn : NoX h) (hm : behindInMarks op b = false) (ha : PE X a (tK X.K x .bw f)) (hb : PE X b (tK X.K x .bw g)) : PT X (.Compare a [op] [b] pos) (tT X.K x (bT (eOp h f g))) :=
  pt_wk (pt_cmpR ho ha hb hm) fun σ H Q q => by
    obtain ⟨F, ρ, z, S, e, w⟩ := q
    have q1 : tTest (tK X.K x .bw (eOp h f g)) σ H Q := tt_of ⟨F, ρ, z, S, e, w⟩
    have w1 : tK X.K x .fz (eOp h f g) σ H fun v H1 => ∃ k, v = .bl k ∧ Q k H1 := by
      obtain ⟨F, ρ, z, S, e, w⟩ := q1
      refine ⟨F, ρ, z, S, e, ?_⟩
      cases z with
      | ok d => exact fun F' H' v G r => w F' H' v G (.inl r)
      | error y => exact w
    exact tk_op hr hn w1
theorem pt_lt (ha : PE X a (tK X.K x .bw f)) (hb : PE X b (tK X.K x .bw g)) : PT X (.Compare a [.Lt] [b] pos) (tT X.K x (bT (eOp dLt f g))) := pt_c op_lt op2_B nox_B (nomark _) ha hb
theorem pt_le (ha : PE X a (tK X.K x .bw f)) (hb : PE X b (tK X.K x .bw g)) : PT X (.Compare a [.LtE] [b] pos) (tT X.K x (bT (eOp dLe f g))) := pt_c op_le op2_B nox_B (nomark _) ha hb
theorem pt_gt (ha : PE X a (tK X.K x .bw f)) (hb : PE X b (tK X.K x .bw g)) : PT X (.Compare a [.Gt] [b] pos) (tT X.K x (bT (eOp dGt f g))) := pt_c op_gt op2_B nox_B (nomark _) ha hb
theorem pt_ge (ha : PE X a (tK X.K x .bw f)) (hb : PE X b (tK X.K x .bw g)) : PT X (.Compare a [.GtE] [b] pos) (tT X.K x (bT (eOp dGe f g))) := pt_c op_ge op2_B nox_B (nomark _) ha hb
theorem pt_eq (hu : X.A.units + 64 < cLine) (ha : PE X a (tK X.K x .bw f)) (hb : PE X b (tK X.K x .bw g)) : PT X (.Compare a [.Eq] [b] pos) (tT X.K x (bT (eOp dEq f g))) := pt_c (op_eq.or (op_eqD hu)) op2_eq nox_eq (nomark _) ha hb
theorem pt_ne (hu : X.A.units + 64 < cLine) (ha : PE X a (tK X.K x .bw f)) (hb : PE X b (tK X.K x .bw g)) : PT X (.Compare a [.NotEq] [b] pos) (tT X.K x (bT (eOp dNe f g))) := pt_c (op_ne.or (op_neD hu)) op2_ne nox_ne (nomark _) ha hb
theorem pt_in (hu : X.A.units + 65 < cLine) (hm : behindInMarks .In b = false) (ha : PE X a (tK X.K x .bw f)) (hb : PE X b (tK X.K x .bw g)) : PT X (.Compare a [.In] [b] pos) (tT X.K x (bT (eOp dIn f g))) := pt_c (op_inD hu) op2_in nox_in hm ha hb
theorem pt_nin (hu : X.A.units + 65 < cLine) (hm : behindInMarks .NotIn b = false) (ha : PE X a (tK X.K x .bw f)) (hb : PE X b (tK X.K x .bw g)) : PT X (.Compare a [.NotIn] [b] pos) (tT X.K x (bT (eOp dNin f g))) := pt_c (op_notInD hu) op2_nin nox_nin hm ha hb
theorem op2_isN : Op2 X.K x .fz (fun v u H Q => u = .non ∧ Q (.bl (decide (v = .non))) H) dIsN := fun F H σ v u d e q Q ex rv ru hq w => by
  unfold dIsN at hq
  split at hq
  · cases (Option.some.inj hq)
    refine ⟨rk_non ru, ?_⟩
    rw [rk_isNon rv]
    exact w.val ex (.bl _) (by decide)
  · cases hq
theorem op2_notN : Op2 X.K x .fz (fun v u H Q => u = .non ∧ Q (.bl (!decide (v = .non))) H) dNotN := fun F H σ v u d e q Q ex rv ru hq w => by
  unfold dNotN at hq
  split at hq
  · cases (Option.some.inj hq)
    refine ⟨rk_non ru, ?_⟩
    rw [rk_isNon rv]
    exact w.val ex (.bl _) (by decide)
  · cases hq
theorem nox_isN : NoX dIsN := fun d e y q => by
  unfold dIsN at q
  split at q <;> cases q
theorem nox_notN : NoX dNotN := fun d e y q => by
  unfold dNotN at q
  split at q <;> cases q
theorem pt_isN (ha : PE X a (tK X.K x .bw f)) (hb : PE X b (tK X.K x .bw g)) : PT X (.Compare a [.Is] [b] pos) (tT X.K x (bT (eOp dIsN f g))) := pt_c op_isN op2_isN nox_isN (nomark _) ha hb
theorem pt_notN (ha : PE X a (tK X.K x .bw f)) (hb : PE X b (tK X.K x .bw g)) : PT X (.Compare a [.IsNot] [b] pos) (tT X.K x (bT (eOp dNotN f g))) := pt_c op_notN op2_notN nox_notN (nomark _) ha hb

/-! ### and, or, not as tests -/
variable {p q : Ro → EM Bool}
def bAnd (p q : Ro → EM Bool) : Ro → EM Bool := fun ρ => bnd (p ρ) fun z => if z = true then q ρ else ok false
def bOr (p q : Ro → EM Bool) : Ro → EM Bool := fun ρ => bnd (p ρ) fun z => if z = true then ok true else q ρ
def bNot (p : Ro → EM Bool) : Ro → EM Bool := fun ρ => bnd (p ρ) fun z => ok (!z)
theorem pkw_and1 (ha : PT X a (tT X.K x p)) : PW X (.BoolOp .And [a] pos) (tT X.K x p) := pw_and1 ha
theorem pkw_or1 (ha : PT X a (tT X.K x p)) : PW X (.BoolOp .Or [a] pos) (tT X.K x p) := pw_or1 ha
theorem WdT.grow {K : PySem.W.Frag} {r : Except Xn Bool} {F H F' H' : Hp} {σ : L2.St} {Q : Bool → Hp → Prop} (G : Grow F H F' H') (w : WdT K x r F H σ Q) : WdT K x r F' H' σ Q := by
  cases r with
  | ok b => exact fun F2 H2 G2 => w F2 H2 (G.trans G2)
  | error y => exact Wx.grow (K := K) G w
theorem pkw_and (ha : PT X a (tT X.K x p)) (hb : PW X (.BoolOp .And (b :: es) pos) (tT X.K x q)) : PW X (.BoolOp .And (a :: b :: es) pos) (tT X.K x (bAnd p q)) := pw_wk (pw_and ha hb) fun σ H Q ⟨F, ρ, r, S, e, w⟩ =>
  tt_step S e (fun y hy => by subst hy; exact w) fun z F1 H1 G1 S1 e1 => by
    cases z with
    | true => exact ⟨F1, ρ, r, S1, by simpa using e1, WdT.grow (K := X.K) G1 w⟩
    | false =>
      cases (Option.some.inj e1)
      exact w F1 H1 G1
theorem pkw_or (ha : PT X a (tT X.K x p)) (hb : PW X (.BoolOp .Or (b :: es) pos) (tT X.K x q)) : PW X (.BoolOp .Or (a :: b :: es) pos) (tT X.K x (bOr p q)) := pw_wk (pw_or ha hb) fun σ H Q ⟨F, ρ, r, S, e, w⟩ =>
  tt_step S e (fun y hy => by subst hy; exact w) fun z F1 H1 G1 S1 e1 => by
    cases z with
    | false => exact ⟨F1, ρ, r, S1, by simpa using e1, WdT.grow (K := X.K) G1 w⟩
    | true =>
      cases (Option.some.inj e1)
      exact w F1 H1 G1
theorem pkt_not (ha : PT X a (tT X.K x p)) : PT X (.UnaryOp .Not a pos) (tT X.K x (bNot p)) := pt_wk (pt_not ha) fun σ H Q ⟨F, ρ, r, S, e, w⟩ =>
  tt_step S e (fun y hy => by subst hy; exact w) fun z F1 H1 G1 S1 e1 => by
    cases (Option.some.inj e1)
    exact w F1 H1 G1
/-! .. as values -/
def eAnd (f g : Ro → EM D) : Ro → EM D := fun ρ => bnd (f ρ) fun d => bnd (toB d) fun z => if z = true then g ρ else ok (.bl false)
def eOr (f g : Ro → EM D) : Ro → EM D := fun ρ => bnd (f ρ) fun d => bnd (toB d) fun z => if z = true then ok (.bl true) else g ρ
def eNot (f : Ro → EM D) : Ro → EM D := fun ρ => bnd (f ρ) fun d => bnd (toB d) fun z => ok (.bl (!z))
theorem pk_one {op} {t : TE} (h : PE X a t) : PE X (.BoolOp op [a] pos) t := pe_one h
theorem toB_some {d : D} {β : Type} {g : Bool → EM β} {r : Except Xn β} (e : bnd (toB d) g = some r) : ∃ z, d = .bl z ∧ g z = some r := by
  unfold toB at e
  split at e
  · exact ⟨_, rfl, e⟩
  · cases e
theorem pk_and2 (ha : PE X a (tK X.K x .bw f)) (hb : PE X (.BoolOp .And (b :: es) pos) (tK X.K x .fz g)) : PE X (.BoolOp .And (a :: b :: es) pos) (tK X.K x .fz (eAnd f g)) := pe_wk (pe_and ha hb) fun σ H Q ⟨F, ρ, r, S, e, w⟩ =>
  tk_step S e w.x fun d F1 H1 v G1 S1 r1 e1 => by
    obtain ⟨z, rfl, e2⟩ := toB_some e1
    refine ⟨z, rk_bl r1, ?_⟩
    cases z with
    | true => exact ⟨F1, ρ, r, S1, by simpa using e2, w.grow G1⟩
    | false =>
      cases (Option.some.inj e2)
      exact (w.grow G1).val S1.fh (.bl _) (by decide)
theorem pk_or2 (ha : PE X a (tK X.K x .bw f)) (hb : PE X (.BoolOp .Or (b :: es) pos) (tK X.K x .fz g)) : PE X (.BoolOp .Or (a :: b :: es) pos) (tK X.K x .fz (eOr f g)) := pe_wk (pe_or ha hb) fun σ H Q ⟨F, ρ, r, S, e, w⟩ =>
  tk_step S e w.x fun d F1 H1 v G1 S1 r1 e1 => by
    obtain ⟨z, rfl, e2⟩ := toB_some e1
    refine ⟨z, rk_bl r1, ?_⟩
    cases z with
    | false => exact ⟨F1, ρ, r, S1, by simpa using e2, w.grow G1⟩
    | true =>
      cases (Option.some.inj e2)
      exact (w.grow G1).val S1.fh (.bl _) (by decide)
theorem pk_not (ha : PE X a (tK X.K x .bw f)) : PE X (.UnaryOp .Not a pos) (tK X.K x .fz (eNot f)) := pe_wk (pe_not ha) fun σ H Q ⟨F, ρ, r, S, e, w⟩ =>
  tk_step S e w.x fun d F1 H1 v G1 S1 r1 e1 => by
    obtain ⟨z, rfl, e2⟩ := toB_some e1
    cases (Option.some.inj e2)
    exact ⟨z, rk_bl r1, (w.grow G1).val S1.fh (.bl _) (by decide)⟩
def eIf (p : Ro → EM Bool) (f g : Ro → EM D) : Ro → EM D := fun ρ => bnd (p ρ) fun z => if z = true then f ρ else g ρ
theorem pk_if (hc : PT X c (tT X.K x p)) (ha : PE X a (tK X.K x k f)) (hb : PE X b (tK X.K x k g)) : PE X (.IfExp c a b pos) (tK X.K x k (eIf p f g)) := pe_wk (pe_ifExp hc ha hb) fun σ H Q ⟨F, ρ, r, S, e, w⟩ =>
  tt_step S e w.x fun z F1 H1 G1 S1 e1 => by
    cases z with
    | true => exact ⟨F1, ρ, r, S1, by simpa using e1, w.grow G1⟩
    | false => exact ⟨F1, ρ, r, S1, by simpa using e1, w.grow G1⟩
/-! ### chains -/
def eChain (h h' : D → D → EM D) (f g l : Ro → EM D) : Ro → EM D := fun ρ => bnd (f ρ) fun d => bnd (g ρ) fun e => bnd (h d e) fun z => bnd (toB z) fun z => if z = true then bnd (l ρ) fun w => h' e w else ok (.bl false)
theorem pk_chain {op op' : CmpOp} {r r' : R2} {l : Ro → EM D} (ho : OpR X (compareOp op) r) (ho' : OpR X (compareOp op') r') (hr : Op2 X.K x .fz r h) (hr' : Op2 X.K x .fz r' h') (hn : NoX h) (hn' : NoX h') (ha : PE X a (tK X.K x .bw f)) (hb : PE X b (tK X.K x .bw g)) (hc : PE X c (tK X.K x .bw l))
    (hm : lastMarks [op, op'] [b, c] = false := by with_unfolding_all rfl) : PE X (.Compare a [op, op'] [b, c] pos) (tK X.K x .fz (eChain h h' f g l)) := pe_wk (pe_chain ho ho' ha hb hc hm) fun σ H Q ⟨F, ρ, q, S, e, w⟩ =>
  tk_step S e w.x fun d F1 H1 v G1 S1 r1 e1 => tk_step S1 e1 (fun y hy => Wx.grow (K := X.K) G1 (w.x y hy)) fun d2 F2 H2 u G2 S2 r2 e2 => by
    cases eh : h d d2 with
    | none => rw [eh] at e2; cases e2
    | some z =>
      rw [eh] at e2
      cases z with
      | error y => exact absurd eh (hn _ _ _)
      | ok z =>
        obtain ⟨b, rfl, e3⟩ := toB_some e2
        refine hr F2 H2 σ v u d d2 (.bl b) _ S2.fh (r1.grow G2) r2 eh fun F3 H3 w3 G3 r3 => ⟨b, rk_bl (H0 := H3) (RK.bw_of (k := .fz) (H0 := H3) (H := H3) r3), ?_⟩
        have S3 := S2.grow G3
        have G := (G1.trans G2).trans G3
        cases b with
        | true =>
          refine iteT ?_
          simp only [if_true] at e3
          refine tk_step S3 e3 (fun y hy => Wx.grow (K := X.K) G (w.x y hy)) fun d4 F4 H4 v4 G4 S4 r4 e4 => ?_
          cases q with
          | error y => exact absurd e4 (hn' _ _ _)
          | ok q => exact hr' F4 H4 σ u v4 d2 d4 q Q S4.fh ((r2.grow G3).grow G4) r4 e4 (w.grow (G.trans G4))
        | false =>
          refine iteF ?_
          simp only [Bool.false_eq_true, if_false] at e3
          cases (Option.some.inj e3)
          exact (w.grow G).val S3.fh (.bl _) (by decide)
theorem pk_le_le {l : Ro → EM D} (ha : PE X a (tK X.K x .bw f)) (hb : PE X b (tK X.K x .bw g)) (hc : PE X c (tK X.K x .bw l)) (hm : lastMarks [.LtE, .LtE] [b, c] = false := by with_unfolding_all rfl) : PE X (.Compare a [.LtE, .LtE] [b, c] pos) (tK X.K x .fz (eChain dLe dLe f g l)) := pk_chain op_le op_le op2_B op2_B nox_B nox_B ha hb hc hm
theorem pt_chainR {op op' : CmpOp} {r r' : R2} {l : Ro → EM D} (ho : OpR X (compareOp op) r) (ho' : OpR X (compareOp op') r') (hr : Op2 X.K x .fz r h) (hr' : Op2 X.K x .fz r' h') (hn : NoX h) (hn' : NoX h') (ha : PE X a (tK X.K x .bw f)) (hb : PE X b (tK X.K x .bw g)) (hc : PE X c (tK X.K x .bw l))
    (hm : lastMarks [op, op'] [b, c] = false := by with_unfolding_all rfl) : PT X (.Compare a [op, op'] [b, c] pos) (tT X.K x (bT (eChain h h' f g l))) := pt_wk (pt_chain ho ho' ha hb hc hm) fun σ H Q q => by
  have q1 : tTest (tK X.K x .bw (eChain h h' f g l)) σ H Q := tt_of q
  have q2 : tK X.K x .fz (eChain h h' f g l) σ H fun v H1 => ∃ k, v = .bl k ∧ Q k H1 := by
    obtain ⟨F, ρ, z, S, e, w⟩ := q1
    refine ⟨F, ρ, z, S, e, ?_⟩
    cases z with
    | ok d => exact fun F' H' v G r => w F' H' v G (.inl r)
    | error y => exact w
  obtain ⟨F, ρ, q, S, e, w⟩ := q2
  exact tk_step S e w.x fun d F1 H1 v G1 S1 r1 e1 => tk_step S1 e1 (fun y hy => Wx.grow (K := X.K) G1 (w.x y hy)) fun d2 F2 H2 u G2 S2 r2 e2 => by
    cases eh : h d d2 with
    | none => rw [eh] at e2; cases e2
    | some z =>
      rw [eh] at e2
      cases z with
      | error y => exact absurd eh (hn _ _ _)
      | ok z =>
        obtain ⟨b, rfl, e3⟩ := toB_some e2
        refine hr F2 H2 σ v u d d2 (.bl b) _ S2.fh (r1.grow G2) r2 eh fun F3 H3 w3 G3 r3 => ⟨b, rk_bl (H0 := H3) (RK.bw_of (k := .fz) (H0 := H3) (H := H3) r3), ?_⟩
        have S3 := S2.grow G3
        have G := (G1.trans G2).trans G3
        cases b with
        | true =>
          refine iteT ?_
          simp only [if_true] at e3
          refine tk_step S3 e3 (fun y hy => Wx.grow (K := X.K) G (w.x y hy)) fun d4 F4 H4 v4 G4 S4 r4 e4 => ?_
          cases q with
          | error y => exact absurd e4 (hn' _ _ _)
          | ok q => exact hr' F4 H4 σ u v4 d2 d4 q _ S4.fh ((r2.grow G3).grow G4) r4 e4 (w.grow (G.trans G4))
        | false =>
          refine iteF ?_
          simp only [Bool.false_eq_true, if_false] at e3
          cases (Option.some.inj e3)
          exact (w.grow G).val (v := .bl false) S3.fh (.bl _) (by decide)

theorem pt_le_le {l : Ro → EM D} (ha : PE X a (tK X.K x .bw f)) (hb : PE X b (tK X.K x .bw g)) (hc : PE X c (tK X.K x .bw l)) (hm : lastMarks [.LtE, .LtE] [b, c] = false := by with_unfolding_all rfl) : PT X (.Compare a [.LtE, .LtE] [b, c] pos) (tT X.K x (bT (eChain dLe dLe f g l))) := pt_chainR op_le op_le op2_B op2_B nox_B nox_B ha hb hc hm

/-! ### displays -/
def eTup (fs : Ro → EM (List D)) : Ro → EM D := fun ρ => bnd (fs ρ) fun ds => if ds.length ≤ sizeLine then ok (.tup ds) else none
def eLst (fs : Ro → EM (List D)) : Ro → EM D := fun ρ => bnd (fs ρ) fun ds => if ds.length ≤ sizeLine then ok (.lst ds) else none
theorem RKL.length {K : PySem.W.Frag} {A : Ad} {k : Kd} {F H H' : Hp} : ∀ {vs : List V} {ds : List D}, RKL K A k F H H' vs ds → vs.length = ds.length
  | _, _, .nil => rfl
  | _, _, .cons _ r => by rw [List.length_cons, List.length_cons, RKL.length r]
theorem pk_tup {fs : Ro → EM (List D)} {x1} (ha : PA X es (tA X.K x .fz fs)) : PE X (.Tuple es x1 pos) (tK X.K x .fz (eTup fs)) := pe_wk (pe_tup ha) fun σ H Q ⟨F, ρ, r, S, e, w⟩ =>
  ta_step S e w.x fun ds F1 H1 vs G1 S1 r1 e1 => by
    split at e1
    · rename_i hz
      cases (Option.some.inj e1)
      exact ⟨by rw [r1.length]; exact hz, (w.grow G1).newT S1.fh r1.repL (by decide)⟩
    · cases e1
theorem pk_lst {fs : Ro → EM (List D)} (ha : PA X es (tA X.K x .fz fs)) : PE X (.List es pos) (tK X.K x k (eLst fs)) := pe_wk (pe_lst ha) fun σ H Q ⟨F, ρ, r, S, e, w⟩ =>
  ta_step S e w.x fun ds F1 H1 vs G1 S1 r1 e1 => by
    split at e1
    · rename_i hz
      cases (Option.some.inj e1)
      exact ⟨by rw [r1.length]; exact hz, (w.grow G1).newL S1.fh r1.repL⟩
    · cases e1

/-! ### slices -/
def cutD {α : Type} (xs : List α) (lo hi : Option Int) : List α := (xs.drop (HT.sIx xs.length 0 lo)).take (HT.sIx xs.length xs.length hi - HT.sIx xs.length 0 lo)
theorem RepL.cut {K : PySem.W.Frag} {A : Ad} {H : Hp} {vs : List V} {ds : List D} (r : RepL K A H vs ds) (lo hi : Option Int) : RepL K A H (cutV vs lo hi) (cutD ds lo hi) := by
  unfold cutV cutD
  rw [r.length]
  exact (r.drop _).take _
def WdP (K : PySem.W.Frag) (x : Fx) (r : Except Xn (Option Int)) (F H : Hp) (σ : L2.St) (Q : Option Int → Hp → Prop) : Prop := match r with
  | .ok o => ∀ F' H', Grow F H F' H' → Q o H'
  | .error e => Wx K x F H σ e
def tP (K : PySem.W.Frag) (x : Fx) (f : Ro → EM (Option Int)) : TO := fun σ H Q => ∃ F ρ r, SR K x.A x.T x.B x.F0 F H σ ρ ∧ f ρ = some r ∧ WdP K x r F H σ Q
def oNone : Ro → EM (Option Int) := fun _ => ok none
def toI (d : D) : EM (Option Int) := match d with
  | .int i => ok (some i)
  | _ => none
def oSome (f : Ro → EM D) : Ro → EM (Option Int) := fun ρ => bnd (f ρ) toI
theorem po_wk {o : Option Expr} {t t' : TO} (h : PO X o t) (w : ∀ σ H Q, t' σ H Q → t σ H Q) : PO X o t' := ⟨fun pins s σ H Q I q => h.run pins s σ H Q I (w σ H Q q)⟩
theorem pkp_none : PO X none (tP X.K x oNone) := po_wk po_none fun σ H Q ⟨F, ρ, r, S, e, w⟩ => by
  cases (Option.some.inj e)
  exact w F H (.refl S.fh)
theorem pkp_some (ha : PE X a (tK X.K x .bw f)) : PO X (some a) (tP X.K x (oSome f)) := po_wk (po_some ha) fun σ H Q ⟨F, ρ, r, S, e, w⟩ =>
  tk_step S e (fun y hy => by subst hy; exact w) fun d F1 H1 v G1 S1 r1 e1 => by
    unfold toI at e1
    split at e1
    · cases (Option.some.inj e1)
      exact ⟨_, rk_int r1, w F1 H1 G1⟩
    · cases e1
theorem tp_step {fo : Ro → EM (Option Int)} {F H : Hp} {σ : L2.St} {ρ : Ro} {β : Type} {g : Option Int → EM β} {r : Except Xn β} {Q : Option Int → Hp → Prop} (S : SR X.K x.A x.T x.B x.F0 F H σ ρ) (e : bnd (fo ρ) g = some r) (hx : ∀ y, r = .error y → Wx X.K x F H σ y)
    (hk : ∀ b F' H', Grow F H F' H' → SR X.K x.A x.T x.B x.F0 F' H' σ ρ → g b = some r → Q b H') : tP X.K x fo σ H Q := by
  cases ef : fo ρ with
  | none => rw [ef] at e; cases e
  | some q =>
    rw [ef] at e
    cases q with
    | error y =>
      have e' : (Except.error y : Except Xn β) = r := Option.some.inj e
      exact ⟨F, ρ, .error y, S, ef, hx y e'.symm⟩
    | ok d => exact ⟨F, ρ, .ok d, S, ef, fun F' H' G => hk d F' H' G (S.grow G) e⟩
def dSlL (d : D) (lo hi : Option Int) : EM D := match d with
  | .lst xs => ok (.lst (cutD xs lo hi))
  | .scr ns => ok (.lst ((cutD ns lo hi).map D.int))
  | _ => none
def dSlT (d : D) (lo hi : Option Int) : EM D := match d with
  | .tup xs => ok (.tup (cutD xs lo hi))
  | _ => none
def eSl (h : D → Option Int → Option Int → EM D) (f : Ro → EM D) (fl fh : Ro → EM (Option Int)) : Ro → EM D := fun ρ => bnd (f ρ) fun d => bnd (fl ρ) fun lo => bnd (fh ρ) fun hi => h d lo hi
theorem cutV_ints (ns : List Int) (lo hi : Option Int) : cutV (ns.map V.int) lo hi = (cutD ns lo hi).map V.int := by
  unfold cutV cutD
  rw [List.length_map, List.map_take, List.map_drop]
theorem pk_slL {lo hi : Option Expr} {p2 : Pos} {fl fh : Ro → EM (Option Int)} (ha : PE X a (tK X.K x .bw f)) (hl : PO X lo (tP X.K x fl)) (hh : PO X hi (tP X.K x fh)) : PE X (.Subscript a (.Slice lo hi none p2) pos) (tK X.K x k (eSl dSlL f fl fh)) := pe_wk (pe_slice sl_list ha hl hh) fun σ H Q ⟨F, ρ, r, S, e, w⟩ =>
  tk_step S e w.x fun d F1 H1 v G1 S1 r1 e1 => tp_step S1 e1 (fun y hy => Wx.grow (K := X.K) G1 (w.x y hy)) fun o1 F2 H2 G2 S2 e2 => tp_step S2 e2 (fun y hy => Wx.grow (K := X.K) (G1.trans G2) (w.x y hy)) fun o2 F3 H3 G3 S3 e3 => by
    have G := (G1.trans G2).trans G3
    have r3 := (r1.grow G2).grow G3
    unfold dSlL at e3
    split at e3
    · cases (Option.some.inj e3)
      obtain ⟨p, vs, rfl, h1, q1⟩ := r3.lst S3.fh
      exact ⟨_, _, rfl, .of h1, (w.grow G).newL S3.fh (q1.cut _ _)⟩
    · cases (Option.some.inj e3)
      obtain ⟨p, rfl, h1⟩ := rk_scr r3
      refine ⟨_, _, rfl, S3.fh.sqL h1, ?_⟩
      rw [cutV_ints]
      exact (w.grow G).newL S3.fh (.ints _)
    · cases e3
theorem pk_slT {lo hi : Option Expr} {p2 : Pos} {fl fh : Ro → EM (Option Int)} (ha : PE X a (tK X.K x .bw f)) (hl : PO X lo (tP X.K x fl)) (hh : PO X hi (tP X.K x fh)) : PE X (.Subscript a (.Slice lo hi none p2) pos) (tK X.K x .fz (eSl dSlT f fl fh)) := pe_wk (pe_slice sl_tupA ha hl hh) fun σ H Q ⟨F, ρ, r, S, e, w⟩ =>
  tk_step S e w.x fun d F1 H1 v G1 S1 r1 e1 => tp_step S1 e1 (fun y hy => Wx.grow (K := X.K) G1 (w.x y hy)) fun o1 F2 H2 G2 S2 e2 => tp_step S2 e2 (fun y hy => Wx.grow (K := X.K) (G1.trans G2) (w.x y hy)) fun o2 F3 H3 G3 S3 e3 => by
    have G := (G1.trans G2).trans G3
    have r3 := (r1.grow G2).grow G3
    unfold dSlT at e3
    split at e3
    · cases (Option.some.inj e3)
      obtain ⟨p, vs, rfl, h1, q1⟩ := rk_tup r3
      refine ⟨_, _, rfl, .of (S3.fh _ _ h1), fun hc => ?_, fun _ => (w.grow G).newT S3.fh (q1.cut _ _) (by decide)⟩
      refine (w.grow G).val S3.fh (.tup h1 ?_) (by decide)
      have := q1.cut o1 o2
      unfold cutV at this
      rw [hc.1, hc.2, List.drop_zero, Nat.sub_zero, List.take_length] at this
      exact this
    · cases e3
def dRevL (d : D) : EM D := match d with
  | .lst xs => ok (.lst xs.reverse)
  | _ => none
def e1 (h : D → EM D) (f : Ro → EM D) : Ro → EM D := fun ρ => bnd (f ρ) h
theorem pk_rev {kk : Nat} {p1 p2 p3 : Pos} (ha : PE X a (tK X.K x .bw f)) : PE X (.Subscript a (.Slice none none (some (.UnaryOp .USub (.Constant (.int 1) kk p1) p2)) p3) pos) (tK X.K x k (e1 dRevL f)) := pe_wk (pe_revL ha) fun σ H Q ⟨F, ρ, r, S, e, w⟩ =>
  tk_step S e w.x fun d F1 H1 v G1 S1 r1 e1 => by
    unfold dRevL at e1
    split at e1
    · cases (Option.some.inj e1)
      obtain ⟨p, vs, rfl, h1, q1⟩ := r1.lst S1.fh
      exact ⟨_, _, rfl, .of h1, (w.grow G1).newL S1.fh q1.rev⟩
    · cases e1
/-- -n -/
def dNeg (d : D) : EM D := match d with
  | .int i => ok (.int (-i))
  | _ => none
theorem pk_neg (ha : PE X a (tK X.K x .bw f)) : PE X (.UnaryOp .USub a pos) (tK X.K x .fz (e1 dNeg f)) := pe_wk (pe_un un_neg ha) fun σ H Q ⟨F, ρ, r, S, e, w⟩ =>
  tk_step S e w.x fun d F1 H1 v G1 S1 r1 e1 => by
    unfold dNeg at e1
    split at e1
    · cases (Option.some.inj e1)
      exact ⟨_, rk_int r1, (w.grow G1).val S1.fh (.int _) (by decide)⟩
    · cases e1

/-! ### attributes -/
/-- the own classes' facts -/
structure ClsF (K : PySem.W.Frag) (A : Ad) : Prop where
  cls : ∀ c, A.has c = true → Cls K (A.cl c)
  no : ∀ c n, A.has c = true → n ∈ c.names → NoAttr K (A.cl c) n
  ca : ∀ c, A.has c = true → PySem.W.findIn K (.ref (A.cl c)) "__class__" = some (some (.builtin "object.__class__"))
  mro : ∀ c, A.has c = true → PySem.W.mroIn K (A.cl c) (.type "object") = some true
  sp : PySem.W.specialIn K (.builtin "object.__class__") "__get__" = some (some (.builtin "getset_descriptor.__get__"))
  tk : PySem.W.takesIn K (.builtin "object.__class__") = some true
def dFld (n : Str) (d : D) : EM D := match d with
  | .obj c ds => ((c.names.zip ds).lookup n).map .ok
  | _ => none
theorem zip_lookup {K : PySem.W.Frag} {A : Ad} {H : Hp} {n : Str} {d : D} : ∀ {ns : List Str} {vs : List V} {ds : List D}, RepL K A H vs ds → (ns.zip ds).lookup n = some d → (∃ v, (ns.zip vs).lookup n = some v ∧ Rep K A H v d) ∧ n ∈ ns
  | [], _, _, _, e => by simp at e
  | m :: ns, _, _, .nil, e => by simp at e
  | m :: ns, _, _, .cons h r, e => by
    rw [List.zip_cons_cons, List.lookup_cons] at e
    rw [List.zip_cons_cons, List.lookup_cons]
    cases q : n == m with
    | true =>
      rw [q] at e
      cases (Option.some.inj e)
      exact ⟨⟨_, rfl, h⟩, by rw [beq_iff_eq.mp q]; exact List.mem_cons_self⟩
    | false =>
      rw [q] at e
      obtain ⟨h1, h2⟩ := zip_lookup r e
      exact ⟨h1, List.mem_cons_of_mem _ h2⟩
theorem rk_obj {K : PySem.W.Frag} {A : Ad} {F H H0 : Hp} {v : V} {c : Cl} {ds : List D} (h : RK K A .bw F H0 H v (.obj c ds)) : ∃ a dx vs, v = .ref a ∧ A.has c = true ∧ F a = some (.ins (A.cl c) dx (c.names.zip vs)) ∧ RepL K A F vs ds := by
  cases (RK.rep h fun _ z => by cases z) with
  | obj g h1 l r => exact ⟨_, _, _, rfl, g, h1, r⟩
theorem pk_fld {n : Str} (T : ClsF X.K x.A) (ha : PE X a (tK X.K x .bw f)) (hb : attributeBase a n X.env (eval a X.env) = eval a X.env := by rfl) : PE X (.Attribute a n pos) (tK X.K x .fz (e1 (dFld n) f)) := pe_wk (pe_fld ha hb) fun σ H Q ⟨F, ρ, r, S, e, w⟩ =>
  tk_step S e w.x fun d F1 H1 v G1 S1 r1 e1 => by
    unfold dFld at e1
    split at e1
    · rename_i c ds
      obtain ⟨p, dx, vs, rfl, g, h1, q1⟩ := rk_obj r1
      cases el : (c.names.zip ds).lookup n with
      | none => rw [el] at e1; cases e1
      | some d =>
        rw [el] at e1
        cases (Option.some.inj e1)
        obtain ⟨⟨u, hu, ru⟩, hm⟩ := zip_lookup q1 el
        exact ⟨p, _, dx, _, u, rfl, S1.fh _ _ h1, T.cls c g, T.no c n g hm, hu, (w.grow G1).val S1.fh ru (by decide)⟩
    · cases e1
end
end Tw
/-! TwE: defs by data: what a def promises, its body, calls, methods, new objects; built-ins. -/
namespace Tw
open PySem PySem.Spec PyProof.Rows L2

/-! ### calls, at the caller's slots, with defaults -/
section
variable {X : Cx} {CX : CXT} {k : Nat} {f C : Addr} {fd : FuncData} {ps : List Str} {sp : Sp} {E : L2.St → XK} {n m : Str} {p pos apos : Pos} {e o : Expr} {es : List Expr} {ta : TE} {t : TA} {dvs : List V} {ds : List Value}
theorem run_fnG {pins : List (Addr × Obj)} {σ : L2.St} {H : Hp} {s : Shared} {Q : VK} {us : List Value} {vs : List V} (F : FnOk X.prog X.w X.K X.mg X.base CX k f fd ps sp) (hr : Room k X.A) (hb : Binds X.K fd ps ds) (hd : Vals dvs ds) (hx : PassesAt CX X σ (E σ))
    (I : Inv X pins σ H s) (r : Vals vs us) (h : sp (vs ++ dvs) H Q (E σ)) : wpAny (model X.prog X.w) X.A (call (.ref f) us) (EP X pins σ Q) X.xe s := by
  have r2 : Vals (vs ++ dvs) (us ++ ds) := r.append hd
  have hl : (us ++ ds).length = ps.length := by rw [← r2.length]; exact F.len _ _ _ _ h
  refine wpAny_call (codeAny_mono (F.run X.A X.stack s H ⟨us, []⟩ (us ++ ds) (vs ++ dvs) Q (E σ) hr I.env0 (hb s us I.kIn hl) r2 h) fun r s' hq => ?_)
  cases r with
  | error e => exact hx pins H s e s' I hq
  | ok fl =>
    cases fl with
    | ret u => exact I.after hq
    | next => exact False.elim hq
    | brk => exact False.elim hq
    | cont => exact False.elim hq
def tCallG (sp : Sp) (dvs : List V) (E : L2.St → XK) (t : TA) : TE := fun σ H Q => t σ H fun vs H1 => sp (vs ++ dvs) H1 Q (E σ)
theorem pe_callG (F : FnOk X.prog X.w X.K X.mg X.base CX k f fd ps sp) (hr : Room k X.A) (hg : Gl X n) (hm : X.mg n = some (.ref f)) (hk : PySem.W.keepIn X.K (.ref f) = true) (hb : Binds X.K fd ps ds) (hd : Vals dvs ds) (hx : ∀ σ, PassesAt CX X σ (E σ))
    (ha : PA X (e :: es) t) (hdb : (n == ("__debug__" : Str)) = false := by decide) (he : starEach (e :: es) X.env = (false, eval e X.env) :: starEach es X.env := by rfl) (hpl : (backTo pos (starEach es X.env)).any (·.1) = false := by rfl) :
    PE X (.Call (.Name n p) (e :: es) [] pos) (tCallG sp dvs E t) := by
  refine ⟨fun pins s σ H Q I h => ?_⟩
  refine wpAny_Call_Name_kw (ld_glob I hg hm ?_ hdb)
  refine PySem.W.callWith_K (h₀ := X.base) I.ok.mod.kin hk (thn (ha.run pos pins s σ H _ I h) fun us s1 ⟨vs, H1, I1, r, q⟩ => ⟨I1.kIn, ?_⟩) he hpl
  exact run_fnG F hr hb hd (hx σ) I1 r q
def tMethG (C : Addr) (m : Str) (sp : Sp) (dvs : List V) (E : L2.St → XK) (ta : TE) (t : TA) : TE := fun σ H Q => ta σ H fun x H1 => ∃ a dx fs, x = .ref a ∧ H1 a = some (.ins C dx fs) ∧ fs.lookup m = none ∧
  t σ H1 fun vs H2 => sp (x :: (vs ++ dvs)) H2 Q (E σ)
theorem pe_methG {pl : Sem Bool} (he : PE X o ta) (c : Cls X.K C) (hm : Meth X.K C m f) (F : FnOk X.prog X.w X.K X.mg X.base CX k f fd ps sp) (hr : Room k X.A) (hb : Binds X.K fd ps ds) (hd : Vals dvs ds) (hx : ∀ σ, PassesAt CX X σ (E σ)) (ha : PA X (e :: es) t)
    (hst : starEach (e :: es) X.env = (false, eval e X.env) :: starEach es X.env := by rfl) (hpl : (backTo pos (starEach es X.env)).any (·.1) = false := by rfl)
    (ht : eval (.Call (.Attribute o m apos) (e :: es) [] pos) X.env = (do
      let ov ← eval o X.env
      standAt apos.atName
      let (f, first) ← holding [ov] (getMethod ov m pl)
      callWith pos f first (backTo pos (starEach (e :: es) X.env)) (backToKw pos (keywordEach [] X.env))) := by rfl) :
    PE X (.Call (.Attribute o m apos) (e :: es) [] pos) (tMethG C m sp dvs E ta t) := by
  refine ⟨fun pins s σ H Q I h => ?_⟩
  refine PySem.W.methodCall_KW (pl := pl) (thn (he.run pins s σ H _ I h) fun u s1 ⟨x, H1, I1, rx, a, dx, fs, ex, ea, l, q⟩ => ?_) ht
  subst ex
  obtain rfl : u = Value.ref a := rx
  refine getmeth_ok I1 ea c hm l ?_
  refine PySem.W.callWith_K (first := [.ref a]) (h₀ := X.base) I.ok.mod.kin hm.kp (thn (ha.run pos pins s1 σ H1 _ I1 q) fun us s2 ⟨vs, H2, I2, r, q2⟩ => ⟨I2.kIn, ?_⟩) hst hpl
  exact run_fnG (us := .ref a :: us) (vs := .ref a :: vs) F hr hb hd (hx σ) I2 (.cons rfl r) q2
theorem pe_methG0 {pl : Sem Bool} (he : PE X o ta) (c : Cls X.K C) (hm : Meth X.K C m f) (F : FnOk X.prog X.w X.K X.mg X.base CX k f fd ps sp) (hr : Room k X.A) (hb : Binds X.K fd ps ds) (hd : Vals dvs ds) (hx : ∀ σ, PassesAt CX X σ (E σ))
    (ht : eval (.Call (.Attribute o m apos) [] [] pos) X.env = (do
      let ov ← eval o X.env
      standAt apos.atName
      let (f, first) ← holding [ov] (getMethod ov m pl)
      callWith pos f first (backTo pos (starEach [] X.env)) (backToKw pos (keywordEach [] X.env))) := by rfl) :
    PE X (.Call (.Attribute o m apos) [] [] pos) (tMethG C m sp dvs E ta tNil) := by
  refine ⟨fun pins s σ H Q I h => ?_⟩
  refine PySem.W.methodCall_KW (pl := pl) (thn (he.run pins s σ H _ I h) fun u s1 ⟨x, H1, I1, rx, a, dx, fs, ex, ea, l, q⟩ => ?_) ht
  subst ex
  obtain rfl : u = Value.ref a := rx
  refine getmeth_ok I1 ea c hm l ?_
  exact PySem.W.callWith_K0 (first := [.ref a]) I1.kIn hm.kp (run_fnG (us := [.ref a]) (vs := [.ref a]) F hr hb hd (hx σ) I1 (.cons rfl .nil) q)
def tMakeG (C : Addr) (sp : Sp) (dvs : List V) (E : L2.St → XK) (t : TA) : TE := fun σ H Q => t σ H fun vs H1 => ∀ x dx, H1 x = none → H1 dx = none → dx ≠ x →
  sp (.ref x :: (vs ++ dvs)) (upd (upd H1 dx (.own x)) x (.ins C dx [])) (fun v H2 => v = .non ∧ Q (.ref x) H2) (E σ)
theorem run_makeG {pins : List (Addr × Obj)} {σ : L2.St} {H : Hp} {s : Shared} {Q : VK} {us : List Value} {vs : List V} (M : Mk X.K C f) (F : FnOk X.prog X.w X.K X.mg X.base CX k f fd ps sp) (hr : Room (k + 1) X.A) (hb : Binds X.K fd ps ds) (hd : Vals dvs ds)
    (hx : PassesAt CX X σ (E σ)) (I : Inv X pins σ H s) (r : Vals vs us)
    (h : ∀ x dx, H x = none → H dx = none → dx ≠ x → sp (.ref x :: (vs ++ dvs)) (upd (upd H dx (.own x)) x (.ins C dx [])) (fun v H2 => v = .non ∧ Q (.ref x) H2) (E σ)) :
    wpAny (model X.prog X.w) X.A (call (.ref C) us) (EP X pins σ Q) X.xe s := by
  have hq := h (s.heap.objs.size + 1) s.heap.objs.size (I.hok.fresh (Nat.le_succ _)) (I.hok.fresh (Nat.le_refl _)) (Nat.ne_of_lt (Nat.lt_succ_self _))
  have I2 := Inv.made (C := C) I
  have r2 : Vals (V.ref (s.heap.objs.size + 1) :: (vs ++ dvs)) (Value.ref (s.heap.objs.size + 1) :: (us ++ ds)) := .cons rfl (r.append hd)
  have hl : (Value.ref (s.heap.objs.size + 1) :: us ++ ds).length = ps.length := by
    have e := r2.length
    rw [F.len _ _ _ _ hq] at e
    exact e.symm
  refine wpAny_call (make_map (f := f) I.kIn M.makes M.init (beq_iff_eq.mp M.fn) (codeAny_mono (F.run _ X.stack _ _ ⟨Value.ref (s.heap.objs.size + 1) :: us, []⟩ (Value.ref (s.heap.objs.size + 1) :: (us ++ ds)) _ _ (E σ) (hr.make C us [])
    (I2.env0.make C us []) (hb _ (Value.ref (s.heap.objs.size + 1) :: us) I2.kIn hl) r2 hq) fun r s' hq' => ?_))
  cases r with
  | error e => exact hx pins _ _ e s' I2 hq'
  | ok fl =>
    cases fl with
    | ret u =>
      obtain ⟨v, H', I3, rv, ev, q3⟩ := I2.after hq'
      subst ev
      exact ⟨rv, ⟨V.ref (s.heap.objs.size + 1), H', I3, rfl, q3⟩⟩
    | next => exact False.elim hq'
    | brk => exact False.elim hq'
    | cont => exact False.elim hq'
theorem pe_makeG (M : Mk X.K C f) (F : FnOk X.prog X.w X.K X.mg X.base CX k f fd ps sp) (hr : Room (k + 1) X.A) (hg : Gl X n) (hm : X.mg n = some (.ref C)) (hb : Binds X.K fd ps ds) (hd : Vals dvs ds) (hx : ∀ σ, PassesAt CX X σ (E σ))
    (ha : PA X (e :: es) t) (hdb : (n == ("__debug__" : Str)) = false := by decide) (he : starEach (e :: es) X.env = (false, eval e X.env) :: starEach es X.env := by rfl) (hpl : (backTo pos (starEach es X.env)).any (·.1) = false := by rfl) :
    PE X (.Call (.Name n p) (e :: es) [] pos) (tMakeG C sp dvs E t) := by
  refine ⟨fun pins s σ H Q I h => ?_⟩
  refine wpAny_Call_Name_kw (ld_glob I hg hm ?_ hdb)
  refine PySem.W.callWith_K (h₀ := X.base) I.ok.mod.kin M.kp (thn (ha.run pos pins s σ H _ I h) fun us s1 ⟨vs, H1, I1, r, q⟩ => ⟨I1.kIn, ?_⟩) he hpl
  exact run_makeG M F hr hb hd (hx σ) I1 r q
end

/-! ### what a def promises, by data -/
inductive Out where
  | ret (d : D) | reto (ds : List D) | exc (e : Xn)
def WdO (K : PySem.W.Frag) (A : Ad) (o : Out) (F H : Hp) (Q : VK) (E : XK) : Prop := match o with
  | .ret d => ∀ F' H' v, Grow F H F' H' → Rep K A F' v d → Q v H'
  | .reto ds => ∀ F' H' l vs, Grow F H F' H' → H l = none → F' l = none → H' l = some (.lst vs) → RepL K A F' vs ds → Q (.ref l) H'
  | .exc e => ∀ F' H' dd, Grow F H F' H' → XR H' e dd → E (.ref (A.xc e.cl)) dd H'
def spD (K : PySem.W.Frag) (A : Ad) (n : Nat) (m : List D → Option Out) : Sp := fun vs H Q E => ∃ F ds o, Ex F H ∧ RepL K A F vs ds ∧ ds.length = n ∧ m ds = some o ∧ WdO K A o F H Q E
theorem spD_len {K : PySem.W.Frag} {A : Ad} {n : Nat} {m : List D → Option Out} : ∀ vs H Q E, spD K A n m vs H Q E → vs.length = n := fun vs H Q E ⟨F, ds, o, _, r, l, _⟩ => by rw [r.length, l]
def startE (n : Nat) (ds : List D) : Ro := ds.map .fz ++ List.replicate (n - ds.length) .un
def outOf : Option Fl → Option Out
  | some (.nx _) => some (.ret .non)
  | some (.rt d) => some (.ret d)
  | some (.rto ds) => some (.reto ds)
  | some (.ex e _) => some (.exc e)
  | _ => none
def runD (n : Nat) (body : Ro → Option Fl) (ds : List D) : Option Out := outOf (body (startE n ds))
theorem SR.begin {K : PySem.W.Frag} {A : Ad} {T : Nat → V} {F H : Hp} {vs : List V} {ds : List D} {N : List Str} (e : Ex F H) (r : RepL K A F vs ds) : SR K A T H F F H (L2.start N vs) (startE N.length ds) where
  fh := e
  bh := .refl _
  f0 := .refl _
  nw := fun _ _ _ => rfl
  len := by unfold L2.start startE; rw [List.length_append, List.length_append, List.length_map, List.length_map, List.length_replicate, List.length_replicate, r.length]
  fz := fun i d h => by
    unfold startE at h
    unfold L2.start
    by_cases hi : i < ds.length
    · rw [List.getElem?_append_left (by simpa using hi)] at h
      rw [List.getElem?_append_left (by rw [List.length_map, r.length]; exact hi)]
      rw [List.getElem?_map] at h
      cases ed : ds[i]? with
      | none => rw [ed] at h; cases h
      | some d' =>
        rw [ed] at h
        cases (Option.some.inj h)
        obtain ⟨v, h1, h2⟩ := r.get ed
        exact ⟨v, by rw [List.getElem?_map, h1]; rfl, h2⟩
    · rw [List.getElem?_append_right (by simpa using hi), List.getElem?_replicate] at h
      split at h <;> cases h
  ow := fun i d h => by
    unfold startE at h
    by_cases hi : i < ds.length
    · rw [List.getElem?_append_left (by simpa using hi), List.getElem?_map] at h
      cases ed : ds[i]? with
      | none => rw [ed] at h; cases h
      | some d' => rw [ed] at h; cases h
    · rw [List.getElem?_append_right (by simpa using hi), List.getElem?_replicate] at h
      split at h <;> cases h
  sep := fun i j d es _ h _ => by
    unfold startE at h
    by_cases hi : i < ds.length
    · rw [List.getElem?_append_left (by simpa using hi), List.getElem?_map] at h
      cases ed : ds[i]? with
      | none => rw [ed] at h; cases h
      | some d' => rw [ed] at h; cases h
    · rw [List.getElem?_append_right (by simpa using hi), List.getElem?_replicate] at h
      split at h <;> cases h
  tk := fun i n h => by
    unfold startE at h
    by_cases hi : i < ds.length
    · rw [List.getElem?_append_left (by simpa using hi), List.getElem?_map] at h
      cases ed : ds[i]? with
      | none => rw [ed] at h; cases h
      | some d' => rw [ed] at h; cases h
    · rw [List.getElem?_append_right (by simpa using hi), List.getElem?_replicate] at h
      split at h <;> cases h
def fxOf (A : Ad) (H F : Hp) (E : XK) : Fx := ⟨A, fun _ => .non, H, F, fun cls d _ H' => E cls d H'⟩
theorem run_body {K : PySem.W.Frag} {A : Ad} {N : List Str} {vs : List V} {H F : Hp} {Q : VK} {E : XK} {ds : List D} {o : Out} {body : Ro → Option Fl} (e : Ex F H) (r : RepL K A F vs ds) (hm : runD N.length body ds = some o) (w : WdO K A o F H Q E) :
    tS K (fxOf A H F E) body { nx := fun _ H' => Q .non H', rt := Q } (L2.start N vs) H := by
  unfold runD outOf at hm
  refine ⟨F, startE N.length ds, ?_⟩
  split at hm
  · rename_i ρ hf
    cases (Option.some.inj hm)
    exact ⟨_, SR.begin e r, hf, fun F' H' σ' G S => w F' H' .non S.out .non⟩
  · rename_i d hf
    cases (Option.some.inj hm)
    exact ⟨_, SR.begin e r, hf, w⟩
  · rename_i d hf
    cases (Option.some.inj hm)
    exact ⟨_, SR.begin e r, hf, w⟩
  · rename_i y ρ hf
    cases (Option.some.inj hm)
    exact ⟨_, SR.begin e r, hf, fun F' H' σ' G S dd q => w F' H' dd S.out q⟩
  · cases hm
section
variable {P : Program} {w : World} {K : PySem.W.Frag} {mg : Str → Option Value} {base : Heap}
theorem fun_ok {CX : CXT} {nm qual : Str} {st : Stmt} {f : Addr} {fd : FuncData} {N ps : List Str} {k : Nat} {sp : Sp} (F : Fun K nm qual st f fd) (S : FnScope N ps (defScope st)) (len : ∀ vs H Q E, sp vs H Q E → vs.length = ps.length)
    (hbody : ∀ (cdv : Value) (A' : Around) (outer : List Env) (s : Shared) (H : Hp) (vs : List V) (Q : VK) (E : XK), Room k (A'.deeper (envOfC qual (defScope st) s.heap.objs.size f cdv)) → sp vs H Q E →
      ∃ t, PSs (cxOf CX P w K mg base N qual (defScope st) f cdv A' outer s H E) (defBody st) t ∧ t { nx := fun _ H' => Q .non H', rt := Q } (L2.start N vs) H) : FnOk P w K mg base CX (k + 1) f fd ps sp := by
  obtain ⟨oc, od, kV, doc, pm, an, cdv, ct, osl, rfl, lk, hcd⟩ := F.ex
  exact fn_of lk hcd S len fun A' outer s H vs Q E hr hsp => hbody cdv A' outer s H vs Q E hr hsp
/-- THE RULE: a def by its body -/
theorem fnD {nm qual : Str} {st : Stmt} {f : Addr} {fd : FuncData} {N ps : List Str} {k : Nat} {A : Ad} {body : Ro → Option Fl} (F : Fun K nm qual st f fd) (S : FnScope N ps (defScope st))
    (hb : ∀ (cdv : Value) (A' : Around) (outer : List Env) (s : Shared) (H F0 : Hp) (E : XK), Room k (A'.deeper (envOfC qual (defScope st) s.heap.objs.size f cdv)) →
      PSs (cxOf (L2N.CX P w) P w K mg base N qual (defScope st) f cdv A' outer s H E) (defBody st) (tS K (fxOf A H F0 E) body)) :
    FnOk P w K mg base (L2N.CX P w) (k + 1) f fd ps (spD K A ps.length (runD N.length body)) :=
  fun_ok F S (spD_len) fun cdv A' outer s H vs Q E hr ⟨F0, ds, o, e, r, l, hm, wd⟩ => ⟨_, hb cdv A' outer s H F0 E hr, run_body e r hm wd⟩
/-- .. of which defaults are told -/
theorem fnDD {nm qual : Str} {params : Arguments} {bd : List Stmt} {scope : Scope} {dvs : List V} {kws : List (Str × V)} {f : Addr} {fd : FuncData} {N ps : List Str} {k : Nat} {A : Ad} {body : Ro → Option Fl} (F : FunD K nm qual params bd scope dvs kws f fd) (S : FnScope N ps scope)
    (hb : ∀ (cdv : Value) (A' : Around) (outer : List Env) (s : Shared) (H F0 : Hp) (E : XK), Room k (A'.deeper (envOfC qual scope s.heap.objs.size f cdv)) →
      PSs (cxOf (L2N.CX P w) P w K mg base N qual scope f cdv A' outer s H E) bd (tS K (fxOf A H F0 E) body)) :
    FnOk P w K mg base (L2N.CX P w) (k + 1) f fd ps (spD K A ps.length (runD N.length body)) :=
  F.ok S (spD_len) fun cdv A' outer s H vs Q E hr ⟨F0, ds, o, e, r, l, hm, wd⟩ => ⟨_, hb cdv A' outer s H F0 E hr, run_body e r hm wd⟩
theorem FnOk.spd {k : Nat} {CX : CXT} {f : Addr} {fd : FuncData} {ps : List Str} {A : Ad} {n : Nat} {m m' : List D → Option Out} (F : FnOk P w K mg base CX k f fd ps (spD K A n m)) (h : ∀ ds o, ds.length = n → m' ds = some o → m ds = some o) : FnOk P w K mg base CX k f fd ps (spD K A n m') :=
  F.imp fun vs H Q E ⟨F0, ds, o, e, r, l, hm, wd⟩ => ⟨F0, ds, o, e, r, l, h ds o l hm, wd⟩
end

/-! ### calls by data -/
def dCall (m : List D → Option Out) (ds : List D) : EM D := match m ds with
  | some (.ret d) => ok d
  | some (.reto ds) => ok (.lst ds)
  | some (.exc e) => some (.error e)
  | none => none
/-- .. of what hands back a new list -/
def dCallO (m : List D → Option Out) (ds : List D) : EM D := match m ds with
  | some (.reto ds) => ok (.lst ds)
  | some (.exc e) => some (.error e)
  | _ => none
def eCall (h : List D → EM D) (fs : Ro → EM (List D)) : Ro → EM D := fun ρ => bnd (fs ρ) h
section
variable {X : Cx} {x : Fx} {k : Nat} {f : Addr} {fd : FuncData} {ps : List Str} {n : Str} {p pos apos : Pos} {e o : Expr} {es : List Expr} {fs : Ro → EM (List D)} {g : Ro → EM D} {dvs : List V} {dds : List D} {ds : List Value} {m : List D → Option Out} {na : Nat}
theorem sp_call {F H : Hp} {σ : L2.St} {Q : VK} {vs : List V} {cs : List D} {r : Except Xn D} (ex : Ex F H) (rv : RepL X.K x.A F vs cs) (hn : cs.length = na) (hd : dCall m cs = some r) (w : Wd X.K x .fz r F H σ Q) : spD X.K x.A na m vs H Q (WE x.W σ) := by
  unfold dCall at hd
  cases em : m cs with
  | none => rw [em] at hd; cases hd
  | some q =>
    rw [em] at hd
    refine ⟨F, cs, q, ex, rv, hn, em, ?_⟩
    cases q with
    | ret d =>
      cases (Option.some.inj hd)
      exact fun F' H' v G r => w F' H' v G r
    | reto ds' =>
      cases (Option.some.inj hd)
      intro F' H' l ws G e0 e5 e3 e4
      have ex' : Ex F' (upd F' l (.lst ws)) := .new e5
      refine w (upd F' l (.lst ws)) H' (.ref l) ⟨G.f.trans ex', G.h, fun c o hc => ?_, fun c o hc => ?_⟩ (Rep.lst upd_same (e4.mono ex'))
      · by_cases q : c = l
        · subst q; rw [upd_same] at hc; rw [← hc]; exact e3
        · rw [upd_ne q] at hc; exact G.i c o hc
      · rw [upd_ne (ne_of_none hc e0)]
        exact G.n c o hc
    | exc y =>
      cases (Option.some.inj hd)
      exact fun F' H' dd G r => w F' H' dd G r
theorem sp_callO {F H : Hp} {σ : L2.St} {Q : VK} {vs : List V} {cs : List D} {r : Except Xn D} (ex : Ex F H) (rv : RepL X.K x.A F vs cs) (hn : cs.length = na) (hd : dCallO m cs = some r) (w : Wd X.K x .ow r F H σ Q) : spD X.K x.A na m vs H Q (WE x.W σ) := by
  unfold dCallO at hd
  cases em : m cs with
  | none => rw [em] at hd; cases hd
  | some q =>
    rw [em] at hd
    refine ⟨F, cs, q, ex, rv, hn, em, ?_⟩
    cases q with
    | ret d => cases hd
    | reto ds' =>
      cases (Option.some.inj hd)
      exact fun F' H' l ws G e0 e5 e3 e4 => w F' H' (.ref l) G ⟨l, ws, ds', rfl, rfl, e0, e5, e3, e4⟩
    | exc y =>
      cases (Option.some.inj hd)
      exact fun F' H' dd G r => w F' H' dd G r
/-- defaults put behind -/
def dDef (na : Nat) (dds : List D) (h : List D → EM D) (cs : List D) : EM D := if (cs ++ dds).length = na then h (cs ++ dds) else none
theorem dDef_some {na : Nat} {dds cs : List D} {h : List D → EM D} {r : Except Xn D} (e : dDef na dds h cs = some r) : (cs ++ dds).length = na ∧ h (cs ++ dds) = some r := by
  unfold dDef at e
  split at e
  · exact ⟨by assumption, e⟩
  · cases e
theorem pk_call (tk : L2N.Takes X x.W) (Fn : FnOk X.prog X.w X.K X.mg X.base (L2N.CX X.prog X.w) k f fd ps (spD X.K x.A na m)) (hr : Room k X.A) (hm : X.mg n = some (.ref f)) (hk : PySem.W.keepIn X.K (.ref f) = true) (hb : Binds X.K fd ps ds) (hd : Vals dvs ds) (hdd : ∀ F, RepL X.K x.A F dvs dds) (hg : Gl X n)
    (ha : PA X (e :: es) (tA X.K x .fz fs)) (hdb : (n == ("__debug__" : Str)) = false := by decide) (he : starEach (e :: es) X.env = (false, eval e X.env) :: starEach es X.env := by rfl) (hpl : (backTo pos (starEach es X.env)).any (·.1) = false := by rfl) :
    PE X (.Call (.Name n p) (e :: es) [] pos) (tK X.K x .fz (eCall (dDef na dds (dCall m)) fs)) := pe_wk (pe_callG Fn hr hg hm hk hb hd (E := WE x.W) (fun σ => L2N.passAt tk σ) ha hdb he hpl) fun σ H Q ⟨F, ρ, r, S, e, w⟩ =>
  ta_step S e w.x fun cs F1 H1 vs G1 S1 r1 e1 => by
    obtain ⟨hl, e2⟩ := dDef_some e1
    exact sp_call S1.fh (r1.repL.app (hdd _)) hl e2 (w.grow G1)
theorem pk_callO (tk : L2N.Takes X x.W) (Fn : FnOk X.prog X.w X.K X.mg X.base (L2N.CX X.prog X.w) k f fd ps (spD X.K x.A na m)) (hr : Room k X.A) (hm : X.mg n = some (.ref f)) (hk : PySem.W.keepIn X.K (.ref f) = true) (hb : Binds X.K fd ps ds) (hd : Vals dvs ds) (hdd : ∀ F, RepL X.K x.A F dvs dds) (hg : Gl X n)
    (ha : PA X (e :: es) (tA X.K x .fz fs)) (hdb : (n == ("__debug__" : Str)) = false := by decide) (he : starEach (e :: es) X.env = (false, eval e X.env) :: starEach es X.env := by rfl) (hpl : (backTo pos (starEach es X.env)).any (·.1) = false := by rfl) :
    PE X (.Call (.Name n p) (e :: es) [] pos) (tK X.K x .ow (eCall (dDef na dds (dCallO m)) fs)) := pe_wk (pe_callG Fn hr hg hm hk hb hd (E := WE x.W) (fun σ => L2N.passAt tk σ) ha hdb he hpl) fun σ H Q ⟨F, ρ, r, S, e, w⟩ =>
  ta_step S e w.x fun cs F1 H1 vs G1 S1 r1 e1 => by
    obtain ⟨hl, e2⟩ := dDef_some e1
    exact sp_callO S1.fh (r1.repL.app (hdd _)) hl e2 (w.grow G1)

/-! ### methods of own objects -/
/-- o.m(..) by the object's class: its facts at each class -/
structure MtD (P : Program) (w : World) (K : PySem.W.Frag) (mg : Str → Option Value) (base : Heap) (A : Ad) (kk : Nat) (c : Cl) (nm : Str) (na : Nat) (m : List D → Option Out) : Prop where
  cls : Cls K (A.cl c)
  fn : ∃ f fd ps k, k ≤ kk ∧ Meth K (A.cl c) nm f ∧ FnOk P w K mg base (L2N.CX P w) k f fd ps (spD K A na m) ∧ Binds K fd ps []
  no : ∀ vs : List V, (c.names.zip vs).lookup nm = none
def eMeth (na : Nat) (tab : Cl → Option (List D → Option Out)) (dc : (List D → Option Out) → List D → EM D) (g : Ro → EM D) (fs : Ro → EM (List D)) : Ro → EM D := fun ρ => bnd (g ρ) fun d => match d with
  | .obj c cs => match tab c with
    | some m => bnd (fs ρ) fun ds => dDef na [] (dc m) (.obj c cs :: ds)
    | none => none
  | _ => none
theorem pe_any {X : Cx} {ι : Type} {e : Expr} {t : ι → TE} (h : ∀ i, PE X e (t i)) : PE X e (fun σ H Q => ∃ i, t i σ H Q) := ⟨fun pins s σ H Q I ⟨i, q⟩ => (h i).run pins s σ H Q I q⟩
def Dc (X : Cx) (x : Fx) (kind : Kd) (dc : (List D → Option Out) → List D → EM D) : Prop := ∀ {F H : Hp} {σ : L2.St} {Q : VK} {vs : List V} {cs : List D} {r : Except Xn D} {na : Nat} {m : List D → Option Out}, Ex F H → RepL X.K x.A F vs cs → cs.length = na → dc m cs = some r → Wd X.K x kind r F H σ Q → spD X.K x.A na m vs H Q (WE x.W σ)
theorem meth_rd {kind : Kd} {dc : (List D → Option Out) → List D → EM D} {tab : Cl → Option (List D → Option Out)} {t : TA} (hdc : Dc X x kind dc) (ht : ∀ σ H Q, tA X.K x .fz fs σ H Q → t σ H Q) (hno : ∀ c m, tab c = some m → ∀ vs : List V, (c.names.zip vs).lookup n = none)
    {c0 : Cl} (h0 : (tab c0).isSome = true) {σ : L2.St} {H : Hp} {Q : VK} (q : tK X.K x kind (eMeth na tab dc g fs) σ H Q) :
    ∃ i : { c : Cl // (tab c).isSome = true }, tMethG (x.A.cl i.1) n (spD X.K x.A na ((tab i.1).get i.2)) [] (WE x.W) (tK X.K x .fz g) t σ H Q := by
  obtain ⟨F, ρ, r, S, e, w⟩ := q
  unfold eMeth at e
  cases eg : g ρ with
  | none => rw [eg] at e; cases e
  | some rg =>
    rw [eg] at e
    cases rg with
    | error y =>
      cases (Option.some.inj e)
      exact ⟨⟨c0, h0⟩, F, ρ, .error y, S, eg, w⟩
    | ok d =>
      simp only [bnd] at e
      split at e
      · rename_i c cs
        split at e
        · rename_i m em
          refine ⟨⟨c, by rw [em]; rfl⟩, F, ρ, .ok (.obj c cs), S, eg, fun F1 H1 v G1 r1 => ?_⟩
          have rr := r1
          obtain ⟨a, dx, vs, rfl, hg, h1, q1⟩ := rk_obj r1.bw_of
          have S1 := S.grow G1
          refine ⟨a, dx, _, rfl, S1.fh _ _ h1, hno c m em vs, ht _ _ _ (ta_step S1 e (fun y hy => Wx.grow (K := X.K) G1 (w.x y hy)) fun ds F2 H2 ws G2 S2 r2 e2 => ?_)⟩
          obtain ⟨hl, e3⟩ := dDef_some e2
          rw [List.append_nil] at hl e3
          have em' : (tab c).get (by rw [em]; rfl) = m := by simp [em]
          rw [List.append_nil]
          show spD X.K x.A na ((tab c).get _) _ H2 Q (WE x.W σ)
          rw [em']
          exact hdc S2.fh (.cons (Rep.mono G2.f rr) r2.repL) hl e3 (w.grow (G1.trans G2))
        · cases e
      · cases e
theorem dc_call : Dc X x .fz dCall := fun ex rv hn hd w => sp_call ex rv hn hd w
theorem dc_callO : Dc X x .ow dCallO := fun ex rv hn hd w => sp_callO ex rv hn hd w
/-- the facts of a method at each class that has it -/
def MtT (X : Cx) (A : Ad) (kk : Nat) (nm : Str) (na : Nat) (tab : Cl → Option (List D → Option Out)) : Prop := ∀ c m, tab c = some m → MtD X.prog X.w X.K X.mg X.base A kk c nm na m
theorem pk_meth {kind : Kd} {dc : (List D → Option Out) → List D → EM D} {tab : Cl → Option (List D → Option Out)} {kk : Nat} {c0 : Cl} {pl : Sem Bool} (hdc : Dc X x kind dc) (tk : L2N.Takes X x.W) (T : MtT X x.A kk n na tab) (hr : Room kk X.A) (h0 : (tab c0).isSome = true)
    (ho : PE X o (tK X.K x .fz g)) (ha : PA X (e :: es) (tA X.K x .fz fs))
    (hst : starEach (e :: es) X.env = (false, eval e X.env) :: starEach es X.env := by rfl) (hpl : (backTo pos (starEach es X.env)).any (·.1) = false := by rfl)
    (ht : eval (.Call (.Attribute o n apos) (e :: es) [] pos) X.env = (do
      let ov ← eval o X.env
      standAt apos.atName
      let (f, first) ← holding [ov] (getMethod ov n pl)
      callWith pos f first (backTo pos (starEach (e :: es) X.env)) (backToKw pos (keywordEach [] X.env))) := by rfl) :
    PE X (.Call (.Attribute o n apos) (e :: es) [] pos) (tK X.K x kind (eMeth na tab dc g fs)) :=
  pe_wk (pe_any fun (i : { c : Cl // (tab c).isSome = true }) => by
    have M := T i.1 _ (Option.some_get i.2).symm
    obtain ⟨f, fd, ps, k, hk, hm, Fn, hb⟩ := M.fn
    exact pe_methG (pl := pl) ho M.cls hm Fn (hr.mono hk) hb .nil (E := WE x.W) (fun σ => L2N.passAt tk σ) ha hst hpl ht)
    fun σ H Q q => meth_rd hdc (fun _ _ _ q => q) (fun c m h vs => (T c m h).no vs) h0 q
theorem pk_meth0 {kind : Kd} {dc : (List D → Option Out) → List D → EM D} {tab : Cl → Option (List D → Option Out)} {kk : Nat} {c0 : Cl} {pl : Sem Bool} (hdc : Dc X x kind dc) (tk : L2N.Takes X x.W) (T : MtT X x.A kk n na tab) (hr : Room kk X.A) (h0 : (tab c0).isSome = true)
    (ho : PE X o (tK X.K x .fz g))
    (ht : eval (.Call (.Attribute o n apos) [] [] pos) X.env = (do
      let ov ← eval o X.env
      standAt apos.atName
      let (f, first) ← holding [ov] (getMethod ov n pl)
      callWith pos f first (backTo pos (starEach [] X.env)) (backToKw pos (keywordEach [] X.env))) := by rfl) :
    PE X (.Call (.Attribute o n apos) [] [] pos) (tK X.K x kind (eMeth na tab dc g aNil)) :=
  pe_wk (pe_any fun (i : { c : Cl // (tab c).isSome = true }) => by
    have M := T i.1 _ (Option.some_get i.2).symm
    obtain ⟨f, fd, ps, k, hk, hm, Fn, hb⟩ := M.fn
    exact pe_methG0 (pl := pl) ho M.cls hm Fn (hr.mono hk) hb .nil (E := WE x.W) (fun σ => L2N.passAt tk σ) ht)
    fun σ H Q q => meth_rd hdc (fun σ H Q ⟨F, ρ, r, S, e, w⟩ => by
      cases (Option.some.inj e)
      exact w F H [] (.refl S.fh) .nil) (fun c m h vs => (T c m h).no vs) h0 q

/-! ### new objects -/
structure GrowP (p : Addr) (F H F' H' : Hp) : Prop where
  f : Ex F F'
  h : ∀ a o, a ≠ p → H a = some o → H' a = some o
  i : Ex F' H'
  fp : F' p = none
  n : ∀ a o, a ≠ p → H a = some o → F' a = F a
/-- what an __init__ promises -/
def spI (K : PySem.W.Frag) (A : Ad) (C : Addr) (names : List Str) (na : Nat) (m : List D → EM (List D)) : Sp := fun vs H Q E => ∃ (p dx : Addr) (F : Hp) (ws : List V) (ds : List D) (r : Except Xn (List D)), vs = .ref p :: ws ∧ H p = some (.ins C dx []) ∧ F p = none ∧ Ex F H ∧ RepL K A F ws ds ∧ ds.length = na ∧ m ds = some r ∧
  (match r with
    | .ok fs => ∀ F' H' fvs, GrowP p F H F' H' → H' p = some (.ins C dx (names.zip fvs)) → fvs.length = names.length → RepL K A F' fvs fs → Q .non H'
    | .error e => ∀ F' H' dd, GrowP p F H F' H' → XR H' e dd → E (.ref (A.xc e.cl)) dd H')
def dMake (m : List D → EM (List D)) (c : Cl) (cs : List D) : EM D := bnd (m cs) fun fs => ok (.obj c fs)
theorem pk_make {c : Cl} {mi : List D → EM (List D)} (tk : L2N.Takes X x.W) (hc : x.A.has c = true) (M : Mk X.K (x.A.cl c) f) (Fn : FnOk X.prog X.w X.K X.mg X.base (L2N.CX X.prog X.w) k f fd ps (spI X.K x.A (x.A.cl c) c.names na mi)) (hr : Room (k + 1) X.A) (hm : X.mg n = some (.ref (x.A.cl c))) (hb : Binds X.K fd ps ds) (hd : Vals dvs ds) (hdd : ∀ F, RepL X.K x.A F dvs dds) (hg : Gl X n)
    (ha : PA X (e :: es) (tA X.K x .fz fs)) (hdb : (n == ("__debug__" : Str)) = false := by decide) (he : starEach (e :: es) X.env = (false, eval e X.env) :: starEach es X.env := by rfl) (hpl : (backTo pos (starEach es X.env)).any (·.1) = false := by rfl) :
    PE X (.Call (.Name n p) (e :: es) [] pos) (tK X.K x .fz (eCall (dDef na dds (dMake mi c)) fs)) := pe_wk (pe_makeG M Fn hr hg hm hb hd (E := WE x.W) (fun σ => L2N.passAt tk σ) ha hdb he hpl) fun σ H Q ⟨F, ρ, r, S, e, w⟩ =>
  ta_step S e w.x fun cs F1 H1 vs G1 S1 r1 e1 => by
    obtain ⟨hl, e2⟩ := dDef_some e1
    intro x' dx hx hdx hne
    unfold dMake at e2
    have Fx : F1 x' = none := S1.fh.free hx
    have ex : Ex F1 (upd (upd H1 dx (.own x')) x' (.ins (x.A.cl c) dx [])) := fun a o ha => by
      have h1 := S1.fh a o ha
      rw [upd_ne (ne_of_none h1 hx), upd_ne (ne_of_none h1 hdx)]
      exact h1
    have old : ∀ a o, H1 a = some o → a ≠ x' ∧ upd (upd H1 dx (.own x')) x' (.ins (x.A.cl c) dx []) a = some o := fun a o ha => ⟨ne_of_none ha hx, by
      rw [upd_ne (ne_of_none ha hx), upd_ne (ne_of_none ha hdx)]
      exact ha⟩
    cases em : mi (cs ++ dds) with
    | none => rw [em] at e2; cases e2
    | some q =>
      rw [em] at e2
      refine ⟨x', dx, F1, _, cs ++ dds, q, rfl, upd_same, Fx, ex, r1.repL.app (hdd _), hl, em, ?_⟩
      cases q with
      | error y =>
        cases (Option.some.inj e2)
        exact fun F' H' dd G r => (w : Wx X.K x F H σ y).grow (K := X.K) G1 F' H' dd ⟨G.f, fun a o ha => G.h a o (old a o ha).1 (old a o ha).2, G.i, fun a o ha => G.n a o (old a o ha).1 (old a o ha).2⟩ r
      | ok fs' =>
        cases (Option.some.inj e2)
        intro F' H' fvs G hp hlen rf
        have exF : Ex F' (upd F' x' (.ins (x.A.cl c) dx (c.names.zip fvs))) := fun a o ha => by
          by_cases q : a = x'
          · subst q
            have := G.i a o ha
            rw [hp] at this
            rw [upd_same]
            exact this
          · rw [upd_ne q]; exact ha
        refine ⟨rfl, (w.grow G1) (upd F' x' (.ins (x.A.cl c) dx (c.names.zip fvs))) H' (.ref x') ⟨G.f.trans exF, fun a o ha => G.h a o (old a o ha).1 (old a o ha).2, fun a o ha => ?_, fun a o ha => ?_⟩ (Rep.obj hc upd_same hlen (rf.mono exF))⟩
        · by_cases q : a = x'
          · subst q; rw [upd_same] at ha; rw [← ha]; exact hp
          · rw [upd_ne q] at ha; exact G.i a o ha
        · rw [upd_ne (old a o ha).1]
          exact G.n a o (old a o ha).1 (old a o ha).2
end
end Tw
/-! TwF: built-ins by data: len, min, max, sum, any, all, str, int, tuple, list, divmod, isinstance; methods of texts and lists. -/
namespace Tw
open PySem PySem.Spec PyProof.Rows L2

def Cb (K : PySem.W.Frag) (x : Fx) (k : Kd) (r : List V → Hp → VK → Prop) (h : List D → EM D) : Prop := ∀ (F H : Hp) (σ : L2.St) (vs : List V) (ds : List D) (q : D) (Q : VK),
  Ex F H → RKL K x.A .bw F H H vs ds → h ds = some (.ok q) → Wd K x k (.ok q) F H σ Q → r vs H Q
theorem RKL.bw0 {K : PySem.W.Frag} {A : Ad} {F H0 H1 H : Hp} : ∀ {vs : List V} {ds : List D}, RKL K A .bw F H0 H vs ds → RKL K A .bw F H1 H vs ds
  | _, _, .nil => .nil
  | _, _, .cons h r => .cons h (RKL.bw0 r)
def NoX1 (h : List D → EM D) : Prop := ∀ ds y, h ds ≠ some (.error y)
section
variable {X : Cx} {x : Fx} {k : Kd} {bid T n : String} {nm : Str} {p pos apos : Pos} {e o : Expr} {es : List Expr} {fs : Ro → EM (List D)} {f g : Ro → EM D} {h : List D → EM D} {r : List V → Hp → VK → Prop}
theorem tk_cb (cb : Cb X.K x k r h) (nx : NoX1 h) {σ : L2.St} {H : Hp} {Q : VK} (q : tK X.K x k (eCall h fs) σ H Q) : tCB r (tA X.K x .bw fs) σ H Q := by
  obtain ⟨F, ρ, z, S, e, w⟩ := q
  refine ta_step S e w.x fun ds F1 H1 vs G1 S1 r1 e1 => ?_
  cases z with
  | error y => exact absurd e1 (nx ds y)
  | ok z => exact cb F1 H1 σ vs ds z Q S1.fh r1.bw0 e1 (w.grow G1)
theorem pk_cb (hc : CallR X (.builtin bid) r) (cb : Cb X.K x k r h) (nx : NoX1 h) (hm : X.mg nm = none) (hv : bootBuiltins nm = some (.builtin bid)) (hg : Gl X nm) (ha : PA X (e :: es) (tA X.K x .bw fs)) (hn : nm ≠ "__name__" := by decide) (hdb : (nm == ("__debug__" : Str)) = false := by decide)
    (he : starEach (e :: es) X.env = (false, eval e X.env) :: starEach es X.env := by rfl) (hpl : (backTo pos (starEach es X.env)).any (·.1) = false := by rfl) : PE X (.Call (.Name nm p) (e :: es) [] pos) (tK X.K x k (eCall h fs)) :=
  pe_wk (pe_callB hc hg hm hv ha hn hdb he hpl) fun _ _ _ q => tk_cb cb nx q
theorem pk_ct (hc : CallR X (.type T) r) (cb : Cb X.K x k r h) (nx : NoX1 h) (hm : X.mg nm = none) (hv : bootBuiltins nm = some (.type T)) (hg : Gl X nm) (ha : PA X (e :: es) (tA X.K x .bw fs)) (hn : nm ≠ "__name__" := by decide) (hdb : (nm == ("__debug__" : Str)) = false := by decide)
    (he : starEach (e :: es) X.env = (false, eval e X.env) :: starEach es X.env := by rfl) (hpl : (backTo pos (starEach es X.env)).any (·.1) = false := by rfl) : PE X (.Call (.Name nm p) (e :: es) [] pos) (tK X.K x k (eCall h fs)) :=
  pe_wk (pe_callTy hc hg hm hv ha hn hdb he hpl) fun _ _ _ q => tk_cb cb nx q

/-! ### len -/
def dLen (ds : List D) : EM D := match ds with
  | [.str z] => if z.length ≤ sizeLine then ok (.int z.length) else none
  | [.lst xs] => ok (.int xs.length)
  | [.tup xs] => ok (.int xs.length)
  | [.scr ns] => ok (.int ns.length)
  | _ => none
theorem nx_len : NoX1 dLen := fun ds y q => by
  unfold dLen at q
  split at q <;> first
    | cases q
    | (split at q <;> cases q)
theorem rkl1 {K : PySem.W.Frag} {A : Ad} {k : Kd} {F H H' : Hp} {vs : List V} {d : D} (h : RKL K A k F H H' vs [d]) : ∃ v, vs = [v] ∧ RK K A k F H H' v d := by
  cases h with
  | cons h r => cases r; exact ⟨_, rfl, h⟩
theorem rkl2 {K : PySem.W.Frag} {A : Ad} {k : Kd} {F H H' : Hp} {vs : List V} {d e : D} (h : RKL K A k F H H' vs [d, e]) : ∃ v u, vs = [v, u] ∧ RK K A k F H H' v d ∧ RK K A k F H H' u e := by
  cases h with
  | cons h r =>
    cases r with
    | cons h2 r => cases r; exact ⟨_, _, rfl, h, h2⟩
theorem cb_len : Cb X.K x .fz (fun xs H Q => ∃ x n, xs = [x] ∧ LenV X.K x H n ∧ Q (.int n) H) dLen := fun F H σ vs ds q Q ex rv hq w => by
  unfold dLen at hq
  split at hq
  · split at hq
    · rename_i hz
      cases (Option.some.inj hq)
      obtain ⟨v, rfl, rw1⟩ := rkl1 rv
      rw [rk_str rw1]
      exact ⟨_, _, rfl, ⟨hz, rfl⟩, w.val ex (.int _) (by decide)⟩
    · cases hq
  · cases (Option.some.inj hq)
    obtain ⟨v, rfl, rw1⟩ := rkl1 rv
    obtain ⟨p, vs, rfl, h1, q1⟩ := rw1.lst ex
    exact ⟨_, _, rfl, .inl ⟨_, .of h1, q1.length.symm⟩, w.val ex (.int _) (by decide)⟩
  · cases (Option.some.inj hq)
    obtain ⟨v, rfl, rw1⟩ := rkl1 rv
    obtain ⟨p, vs, rfl, h1, q1⟩ := rk_tup rw1
    exact ⟨_, _, rfl, .inr ⟨_, .of (ex _ _ h1), q1.length.symm⟩, w.val ex (.int _) (by decide)⟩
  · cases (Option.some.inj hq)
    obtain ⟨v, rfl, rw1⟩ := rkl1 rv
    obtain ⟨p, rfl, h1⟩ := rk_scr rw1
    exact ⟨_, _, rfl, .inl ⟨_, ex.sqL h1, by rw [List.length_map]⟩, w.val ex (.int _) (by decide)⟩
  · cases hq
theorem pk_len (hm : X.mg "len" = none) (hg : Gl X "len") (ha : PA X [e] (tA X.K x .bw fs)) (he : starEach [e] X.env = (false, eval e X.env) :: starEach [] X.env := by rfl) : PE X (.Call (.Name "len" p) [e] [] pos) (tK X.K x .fz (eCall dLen fs)) :=
  pk_cb call_len cb_len nx_len hm PySem.boot_len hg ha (he := he)
/-! ### two ints -/
def dI2 (g : Int → Int → Int) (ds : List D) : EM D := match ds with
  | [.int i, .int j] => ok (.int (g i j))
  | _ => none
theorem nx_I2 {g : Int → Int → Int} : NoX1 (dI2 g) := fun ds y q => by
  unfold dI2 at q
  split at q <;> cases q
theorem cb_I2 {g : Int → Int → Int} : Cb X.K x .fz (fun xs H Q => ∃ i j, xs = [.int i, .int j] ∧ Q (.int (g i j)) H) (dI2 g) := fun F H σ vs ds q Q ex rv hq w => by
  unfold dI2 at hq
  split at hq
  · cases (Option.some.inj hq)
    obtain ⟨v, u, rfl, r1, r2⟩ := rkl2 rv
    rw [rk_int r1, rk_int r2]
    exact ⟨_, _, rfl, w.val ex (.int _) (by decide)⟩
  · cases hq
def dMin2 := dI2 fun i j => if j < i then j else i
def dMax2 := dI2 fun i j => if j > i then j else i
theorem pk_min2 {e2 : Expr} (hc : X.calm = true) (hm : X.mg "min" = none) (hg : Gl X "min") (ha : PA X [e, e2] (tA X.K x .bw fs)) (he : starEach [e, e2] X.env = (false, eval e X.env) :: starEach [e2] X.env := by rfl) (hpl : (backTo pos (starEach [e2] X.env)).any (·.1) = false := by rfl) : PE X (.Call (.Name "min" p) [e, e2] [] pos) (tK X.K x .fz (eCall dMin2 fs)) :=
  pk_cb (call_min2 hc) cb_I2 nx_I2 hm (by decide +kernel) hg ha (he := he) (hpl := hpl)
theorem pk_max2 {e2 : Expr} (hc : X.calm = true) (hm : X.mg "max" = none) (hg : Gl X "max") (ha : PA X [e, e2] (tA X.K x .bw fs)) (he : starEach [e, e2] X.env = (false, eval e X.env) :: starEach [e2] X.env := by rfl) (hpl : (backTo pos (starEach [e2] X.env)).any (·.1) = false := by rfl) : PE X (.Call (.Name "max" p) [e, e2] [] pos) (tK X.K x .fz (eCall dMax2 fs)) :=
  pk_cb (call_max2 hc) cb_I2 nx_I2 hm (by decide +kernel) hg ha (he := he) (hpl := hpl)
def dAbs (ds : List D) : EM D := match ds with
  | [.int i] => ok (.int (if i < 0 then -i else i))
  | _ => none
theorem pk_abs (hm : X.mg "abs" = none) (hg : Gl X "abs") (ha : PA X [e] (tA X.K x .bw fs)) (he : starEach [e] X.env = (false, eval e X.env) :: starEach [] X.env := by rfl) : PE X (.Call (.Name "abs" p) [e] [] pos) (tK X.K x .fz (eCall dAbs fs)) :=
  pk_cb call_abs (fun F H σ vs ds q Q ex rv hq w => by
    unfold dAbs at hq
    split at hq
    · cases (Option.some.inj hq)
      obtain ⟨v, rfl, r1⟩ := rkl1 rv
      rw [rk_int r1]
      exact ⟨_, rfl, w.val ex (.int _) (by decide)⟩
    · cases hq) (fun ds y q => by
    unfold dAbs at q
    split at q <;> cases q) hm (by decide +kernel) hg ha (he := he)
/-! ### lists of ints, of bools -/
def intsOf : List D → Option (List Int)
  | [] => some []
  | .int i :: r => (intsOf r).map (i :: ·)
  | _ => none
theorem intsOf_map : ∀ {ds : List D} {ns : List Int}, intsOf ds = some ns → ds = ns.map D.int
  | [], _, e => by cases (Option.some.inj e); rfl
  | .int i :: r, ns, e => by
    unfold intsOf at e
    cases q : intsOf r with
    | none => rw [q] at e; cases e
    | some ms =>
      rw [q] at e
      cases (Option.some.inj e)
      rw [intsOf_map q]
      rfl
theorem intsOf_ints : ∀ ns : List Int, intsOf (ns.map D.int) = some ns
  | [] => rfl
  | n :: ns => by
    rw [List.map_cons]
    unfold intsOf
    rw [intsOf_ints ns]
    rfl
def blsOf : List D → Option (List Bool)
  | [] => some []
  | .bl i :: r => (blsOf r).map (i :: ·)
  | _ => none
theorem blsOf_map : ∀ {ds : List D} {ns : List Bool}, blsOf ds = some ns → ds = ns.map D.bl
  | [], _, e => by cases (Option.some.inj e); rfl
  | .bl i :: r, ns, e => by
    unfold blsOf at e
    cases q : blsOf r with
    | none => rw [q] at e; cases e
    | some ms =>
      rw [q] at e
      cases (Option.some.inj e)
      rw [blsOf_map q]
      rfl
theorem blsOf_bls : ∀ ns : List Bool, blsOf (ns.map D.bl) = some ns
  | [] => rfl
  | n :: ns => by
    rw [List.map_cons]
    unfold blsOf
    rw [blsOf_bls ns]
    rfl
def strsOf : List D → Option (List Str)
  | [] => some []
  | .str i :: r => (strsOf r).map (i :: ·)
  | _ => none
theorem strsOf_map : ∀ {ds : List D} {ns : List Str}, strsOf ds = some ns → ds = ns.map D.str
  | [], _, e => by cases (Option.some.inj e); rfl
  | .str i :: r, ns, e => by
    unfold strsOf at e
    cases q : strsOf r with
    | none => rw [q] at e; cases e
    | some ms =>
      rw [q] at e
      cases (Option.some.inj e)
      rw [strsOf_map q]
      rfl
theorem strsOf_strs : ∀ ns : List Str, strsOf (ns.map D.str) = some ns
  | [] => rfl
  | n :: ns => by
    rw [List.map_cons]
    unfold strsOf
    rw [strsOf_strs ns]
    rfl
def dSum (ds : List D) : EM D := match ds with
  | [.lst xs] => (intsOf xs).map fun ns => .ok (.int ns.sum)
  | _ => none
def maxL : List Int → Int
  | [] => 0
  | n :: ns => ns.foldl max n
theorem maxL_ge : ∀ (ns : List Int) (a : Int), a ≤ ns.foldl max a ∧ ∀ y ∈ ns, y ≤ ns.foldl max a
  | [], a => ⟨Int.le_refl _, fun _ h => nomatch h⟩
  | n :: ns, a => by
    obtain ⟨h1, h2⟩ := maxL_ge ns (max a n)
    refine ⟨Int.le_trans (Int.le_max_left _ _) h1, fun y hy => ?_⟩
    rcases List.mem_cons.mp hy with rfl | hy
    · exact Int.le_trans (Int.le_max_right _ _) h1
    · exact h2 y hy
theorem maxL_mem : ∀ (ns : List Int) (a : Int), ns.foldl max a = a ∨ ns.foldl max a ∈ ns
  | [], a => .inl rfl
  | n :: ns, a => by
    rcases maxL_mem ns (max a n) with h | h
    · show List.foldl max (max a n) ns = a ∨ _
      rw [h]
      rcases Int.le_total a n with q | q
      · right; rw [List.foldl_cons, h, Int.max_eq_right q]; exact List.mem_cons_self
      · left; exact Int.max_eq_left q
    · right; exact List.mem_cons_of_mem _ h
theorem maxL_is {ns : List Int} {m : Int} (hm : m ∈ ns) (hle : ∀ y ∈ ns, y ≤ m) : m = maxL ns := by
  cases ns with
  | nil => cases hm
  | cons n ns =>
    unfold maxL
    obtain ⟨h1, h2⟩ := maxL_ge ns n
    have a : m ≤ ns.foldl max n := by
      rcases List.mem_cons.mp hm with rfl | hm
      · exact h1
      · exact h2 m hm
    have b : ns.foldl max n ≤ m := by
      rcases maxL_mem ns n with q | q
      · rw [q]; exact hle n List.mem_cons_self
      · exact hle _ (List.mem_cons_of_mem _ q)
    exact Int.le_antisymm a b
def dMaxL (ds : List D) : EM D := match ds with
  | [.lst xs] => match intsOf xs with
    | some ns => if 0 < ns.length then ok (.int (maxL ns)) else none
    | none => none
  | _ => none
theorem rk_ints {K : PySem.W.Frag} {A : Ad} {F H H0 : Hp} {v : V} {xs : List D} {ns : List Int} (e : Ex F H) (h : RK K A .bw F H0 H v (.lst xs)) (hi : intsOf xs = some ns) : ∃ a, v = .ref a ∧ SqL K H a (ns.map V.int) := by
  obtain ⟨a, vs, rfl, h1, q1⟩ := h.lst e
  rw [intsOf_map hi] at q1
  rw [q1.ofInts] at h1
  exact ⟨a, rfl, .of h1⟩
theorem rk_bls {K : PySem.W.Frag} {A : Ad} {F H H0 : Hp} {v : V} {xs : List D} {ns : List Bool} (e : Ex F H) (h : RK K A .bw F H0 H v (.lst xs)) (hi : blsOf xs = some ns) : ∃ a, v = .ref a ∧ SqL K H a (ns.map V.bl) := by
  obtain ⟨a, vs, rfl, h1, q1⟩ := h.lst e
  rw [blsOf_map hi] at q1
  rw [q1.ofBls] at h1
  exact ⟨a, rfl, .of h1⟩
theorem rk_strs {K : PySem.W.Frag} {A : Ad} {F H H0 : Hp} {v : V} {xs : List D} {ns : List Str} (e : Ex F H) (h : RK K A .bw F H0 H v (.lst xs)) (hi : strsOf xs = some ns) : ∃ a, v = .ref a ∧ SqL K H a (ns.map V.str) := by
  obtain ⟨a, vs, rfl, h1, q1⟩ := h.lst e
  rw [strsOf_map hi] at q1
  rw [q1.ofStrs] at h1
  exact ⟨a, rfl, .of h1⟩
theorem pk_sum (hc : X.calm = true) (hm : X.mg "sum" = none) (hg : Gl X "sum") (ha : PA X [e] (tA X.K x .bw fs)) (he : starEach [e] X.env = (false, eval e X.env) :: starEach [] X.env := by rfl) : PE X (.Call (.Name "sum" p) [e] [] pos) (tK X.K x .fz (eCall dSum fs)) :=
  pk_cb (cr_sum hc) (fun F H σ vs ds q Q ex rv hq w => by
    unfold dSum at hq
    split at hq
    · rename_i xs
      cases ei : intsOf xs with
      | none => rw [ei] at hq; cases hq
      | some ns =>
        rw [ei] at hq
        cases (Option.some.inj hq)
        obtain ⟨v, rfl, r1⟩ := rkl1 rv
        obtain ⟨a, rfl, s⟩ := rk_ints ex r1 ei
        exact ⟨_, _, rfl, s, w.val ex (.int _) (by decide)⟩
    · cases hq) (fun ds y q => by
    unfold dSum at q
    split at q
    · simp at q
    · cases q) hm (by decide +kernel) hg ha (he := he)
theorem pk_maxL (hc : X.calm = true) (hm : X.mg "max" = none) (hg : Gl X "max") (ha : PA X [e] (tA X.K x .bw fs)) (he : starEach [e] X.env = (false, eval e X.env) :: starEach [] X.env := by rfl) : PE X (.Call (.Name "max" p) [e] [] pos) (tK X.K x .fz (eCall dMaxL fs)) :=
  pk_cb (cr_max hc) (fun F H σ vs ds q Q ex rv hq w => by
    unfold dMaxL at hq
    split at hq
    · rename_i xs
      split at hq
      · rename_i ns ei
        split at hq
        · rename_i h0
          cases (Option.some.inj hq)
          obtain ⟨v, rfl, r1⟩ := rkl1 rv
          obtain ⟨a, rfl, s⟩ := rk_ints ex r1 ei
          refine ⟨_, _, rfl, s, h0, fun m hm hle => ?_⟩
          rw [maxL_is hm hle]
          exact w.val ex (.int _) (by decide)
        · cases hq
      · cases hq
    · cases hq) (fun ds y q => by
    unfold dMaxL at q
    split at q
    · split at q
      · split at q <;> cases q
      · cases q
    · cases q) hm (by decide +kernel) hg ha (he := he)
def dAll (ds : List D) : EM D := match ds with
  | [.lst xs] => (blsOf xs).map fun ns => .ok (.bl (ns.all id))
  | _ => none
def dAny (ds : List D) : EM D := match ds with
  | [.lst xs] => (blsOf xs).map fun ns => .ok (.bl (ns.any id))
  | _ => none
theorem pk_all (hc : X.calm = true) (hm : X.mg "all" = none) (hg : Gl X "all") (ha : PA X [e] (tA X.K x .bw fs)) (he : starEach [e] X.env = (false, eval e X.env) :: starEach [] X.env := by rfl) : PE X (.Call (.Name "all" p) [e] [] pos) (tK X.K x .fz (eCall dAll fs)) :=
  pk_cb (cr_all hc) (fun F H σ vs ds q Q ex rv hq w => by
    unfold dAll at hq
    split at hq
    · rename_i xs
      cases ei : blsOf xs with
      | none => rw [ei] at hq; cases hq
      | some ns =>
        rw [ei] at hq
        cases (Option.some.inj hq)
        obtain ⟨v, rfl, r1⟩ := rkl1 rv
        obtain ⟨a, rfl, s⟩ := rk_bls ex r1 ei
        exact ⟨_, _, rfl, s, w.val ex (.bl _) (by decide)⟩
    · cases hq) (fun ds y q => by
    unfold dAll at q
    split at q
    · simp at q
    · cases q) hm (by decide +kernel) hg ha (he := he)
theorem pk_anyL (hc : X.calm = true) (hm : X.mg "any" = none) (hg : Gl X "any") (ha : PA X [e] (tA X.K x .bw fs)) (he : starEach [e] X.env = (false, eval e X.env) :: starEach [] X.env := by rfl) : PE X (.Call (.Name "any" p) [e] [] pos) (tK X.K x .fz (eCall dAny fs)) :=
  pk_cb (cr_any hc) (fun F H σ vs ds q Q ex rv hq w => by
    unfold dAny at hq
    split at hq
    · rename_i xs
      cases ei : blsOf xs with
      | none => rw [ei] at hq; cases hq
      | some ns =>
        rw [ei] at hq
        cases (Option.some.inj hq)
        obtain ⟨v, rfl, r1⟩ := rkl1 rv
        obtain ⟨a, rfl, s⟩ := rk_bls ex r1 ei
        exact ⟨_, _, rfl, s, w.val ex (.bl _) (by decide)⟩
    · cases hq) (fun ds y q => by
    unfold dAny at q
    split at q
    · simp at q
    · cases q) hm (by decide +kernel) hg ha (he := he)
/-! ### str, int, tuple, list, divmod -/
def dStr (ds : List D) : EM D := match ds with
  | [.int i] => if i.natAbs.log2 < 1920 then ok (.str (toString i)) else none
  | _ => none
theorem pk_str1 (hm : X.mg "str" = none) (hg : Gl X "str") (ha : PA X [e] (tA X.K x .bw fs)) (he : starEach [e] X.env = (false, eval e X.env) :: starEach [] X.env := by rfl) : PE X (.Call (.Name "str" p) [e] [] pos) (tK X.K x .fz (eCall dStr fs)) :=
  pk_ct call_str_int (fun F H σ vs ds q Q ex rv hq w => by
    unfold dStr at hq
    split at hq
    · split at hq
      · rename_i hl
        cases (Option.some.inj hq)
        obtain ⟨v, rfl, r1⟩ := rkl1 rv
        rw [rk_int r1]
        exact ⟨_, rfl, hl, w.val ex (.str _) (by decide)⟩
      · cases hq
    · cases hq) (fun ds y q => by
    unfold dStr at q
    split at q
    · split at q <;> cases q
    · cases q) hm (by decide +kernel) hg ha (he := he)
def dInt (ds : List D) : EM D := match ds with
  | [.int i] => ok (.int i)
  | [.bl b] => ok (.int (if b then 1 else 0))
  | [.str z] => match PySem.intText? z with
    | some n => if z.length ≤ 640 then ok (.int n) else none
    | none => none
  | _ => none
theorem pk_int1 (hm : X.mg "int" = none) (hg : Gl X "int") (ha : PA X [e] (tA X.K x .bw fs)) (he : starEach [e] X.env = (false, eval e X.env) :: starEach [] X.env := by rfl) : PE X (.Call (.Name "int" p) [e] [] pos) (tK X.K x .fz (eCall dInt fs)) :=
  pk_ct (call_int1.or call_int_str) (fun F H σ vs ds q Q ex rv hq w => by
    unfold dInt at hq
    split at hq
    · cases (Option.some.inj hq)
      obtain ⟨v, rfl, r1⟩ := rkl1 rv
      rw [rk_int r1]
      exact .inl (.inl ⟨_, rfl, w.val ex (.int _) (by decide)⟩)
    · cases (Option.some.inj hq)
      obtain ⟨v, rfl, r1⟩ := rkl1 rv
      rw [rk_bl r1]
      exact .inl (.inr ⟨_, rfl, w.val ex (.int _) (by decide)⟩)
    · split at hq
      · rename_i n hn
        split at hq
        · rename_i hl
          cases (Option.some.inj hq)
          obtain ⟨v, rfl, r1⟩ := rkl1 rv
          rw [rk_str r1]
          exact .inr ⟨_, _, rfl, hn, hl, w.val ex (.int _) (by decide)⟩
        · cases hq
      · cases hq
    · cases hq) (fun ds y q => by
    unfold dInt at q
    split at q <;> first
      | cases q
      | (split at q
         · split at q <;> cases q
         · cases q)) hm (by decide +kernel) hg ha (he := he)
def dTuple (ds : List D) : EM D := match ds with
  | [.lst xs] => ok (.tup xs)
  | [.tup xs] => ok (.tup xs)
  | _ => none
theorem pk_tuple (hm : X.mg "tuple" = none) (hg : Gl X "tuple") (ha : PA X [e] (tA X.K x .bw fs)) (he : starEach [e] X.env = (false, eval e X.env) :: starEach [] X.env := by rfl) : PE X (.Call (.Name "tuple" p) [e] [] pos) (tK X.K x .fz (eCall dTuple fs)) :=
  pk_ct call_tuple_of (fun F H σ vs ds q Q ex rv hq w => by
    unfold dTuple at hq
    split at hq
    · cases (Option.some.inj hq)
      obtain ⟨v, rfl, r1⟩ := rkl1 rv
      obtain ⟨p, vs, rfl, h1, q1⟩ := r1.lst ex
      exact ⟨_, _, rfl, .inl ⟨.of h1, w.newT ex q1 (by decide)⟩⟩
    · cases (Option.some.inj hq)
      obtain ⟨v, rfl, r1⟩ := rkl1 rv
      obtain ⟨p, vs, rfl, h1, q1⟩ := rk_tup r1
      exact ⟨_, _, rfl, .inr ⟨.of (ex _ _ h1), w.val ex (.tup h1 q1) (by decide)⟩⟩
    · cases hq) (fun ds y q => by
    unfold dTuple at q
    split at q <;> cases q) hm (by decide +kernel) hg ha (he := he)
def dList (ds : List D) : EM D := match ds with
  | [.lst xs] => ok (.lst xs)
  | [.tup xs] => ok (.lst xs)
  | [.scr ns] => ok (.lst (ns.map D.int))
  | _ => none
theorem pk_list (hm : X.mg "list" = none) (hg : Gl X "list") (ha : PA X [e] (tA X.K x .bw fs)) (he : starEach [e] X.env = (false, eval e X.env) :: starEach [] X.env := by rfl) : PE X (.Call (.Name "list" p) [e] [] pos) (tK X.K x k (eCall dList fs)) :=
  pk_ct call_list_of (fun F H σ vs ds q Q ex rv hq w => by
    unfold dList at hq
    split at hq
    · cases (Option.some.inj hq)
      obtain ⟨v, rfl, r1⟩ := rkl1 rv
      obtain ⟨p, vs, rfl, h1, q1⟩ := r1.lst ex
      exact ⟨_, _, rfl, .inl (.of h1), w.newL ex q1⟩
    · cases (Option.some.inj hq)
      obtain ⟨v, rfl, r1⟩ := rkl1 rv
      obtain ⟨p, vs, rfl, h1, q1⟩ := rk_tup r1
      exact ⟨_, _, rfl, .inr (.of (ex _ _ h1)), w.newL ex q1⟩
    · cases (Option.some.inj hq)
      obtain ⟨v, rfl, r1⟩ := rkl1 rv
      obtain ⟨p, rfl, h1⟩ := rk_scr r1
      exact ⟨_, _, rfl, .inl (ex.sqL h1), w.newL ex (.ints _)⟩
    · cases hq) (fun ds y q => by
    unfold dList at q
    split at q <;> cases q) hm (by decide +kernel) hg ha (he := he)
def dDivmod (ds : List D) : EM D := match ds with
  | [.int i, .int j] => if cDiv i j = true then ok (.tup [.int (i / j), .int (i % j)]) else none
  | _ => none
theorem pk_divmod {e2 : Expr} (hm : X.mg "divmod" = none) (hg : Gl X "divmod") (ha : PA X [e, e2] (tA X.K x .bw fs)) (he : starEach [e, e2] X.env = (false, eval e X.env) :: starEach [e2] X.env := by rfl) (hpl : (backTo pos (starEach [e2] X.env)).any (·.1) = false := by rfl) : PE X (.Call (.Name "divmod" p) [e, e2] [] pos) (tK X.K x .fz (eCall dDivmod fs)) :=
  pk_cb call_divmod (fun F H σ vs ds q Q ex rv hq w => by
    unfold dDivmod at hq
    split at hq
    · split at hq
      · rename_i hd
        cases (Option.some.inj hq)
        obtain ⟨v, u, rfl, r1, r2⟩ := rkl2 rv
        rw [rk_int r1, rk_int r2]
        unfold cDiv at hd
        simp only [Bool.and_eq_true, decide_eq_true_eq] at hd
        exact ⟨_, _, rfl, hd, w.newT ex (.cons (.int _) (.one (.int _))) (by decide)⟩
      · cases hq
    · cases hq) (fun ds y q => by
    unfold dDivmod at q
    split at q
    · split at q <;> cases q
    · cases q) hm (by decide +kernel) hg ha (he := he) (hpl := hpl)

/-! ### isinstance -/
inductive Tag where
  | non | bl | int | str | lst | tup | dct | obj (c : Cl)
  deriving DecidableEq
def tagOf : D → Tag
  | .non => .non
  | .bl _ => .bl
  | .int _ => .int
  | .str _ => .str
  | .lst _ => .lst
  | .tup _ => .tup
  | .obj c _ => .obj c
  | .scr _ => .lst
  | .ord _ => .dct
def tagV (A : Ad) : Tag → Value
  | .non => .type "NoneType"
  | .bl => .type "bool"
  | .int => .type "int"
  | .str => .type "str"
  | .lst => .type "list"
  | .tup => .type "tuple"
  | .dct => .type "dict"
  | .obj c => .ref (A.cl c)
theorem tyX_sqL {K : PySem.W.Frag} {H : Hp} {a : Addr} {xs : List V} (h : SqL K H a xs) : TyX K H (.ref a) (.type "list") := by
  rcases h with (h | ⟨o, h⟩) | ⟨o, its, n, hk, hc, _⟩
  · exact .base (.lst h)
  · exact .base (.frz h)
  · exact .kList hk hc
theorem tyX_of {K : PySem.W.Frag} {A : Ad} (T : ClsF K A) {F H H0 : Hp} {v : V} {d : D} (e : Ex F H) (h : RK K A .bw F H0 H v d) : TyX K H v (tagV A (tagOf d)) ∧ ∀ c, tagOf d = .obj c → A.has c = true := by
  have r := h.all e
  cases r with
  | non => exact ⟨.base .non, fun c q => by cases q⟩
  | bl b => exact ⟨.base (.bl b), fun c q => by cases q⟩
  | int b => exact ⟨.base (.int b), fun c q => by cases q⟩
  | str b => exact ⟨.base (.str b), fun c q => by cases q⟩
  | lst h1 _ => exact ⟨.base (.lst h1), fun c q => by cases q⟩
  | tup h1 _ => exact ⟨.base (.tup h1), fun c q => by cases q⟩
  | obj g h1 _ _ => exact ⟨.base (.ins h1 (T.cls _ g) (T.ca _ g) T.sp T.tk (T.mro _ g)), fun c q => by cases q; exact g⟩
  | scr h1 => exact ⟨tyX_sqL h1, fun c q => by cases q⟩
  | ord h1 => exact ⟨.base (.dK h1), fun c q => by cases q⟩
/-- what isinstance answers for one class, by the tag -/
def IsTab (K : PySem.W.Frag) (A : Ad) (u : Value) (tab : Tag → Option Bool) : Prop := ∀ t b, tab t = some b → (∀ c, t = .obj c → A.has c = true) → PySem.W.kitOne K (tagV A t) u = some b
def dIs (tab : Tag → Option Bool) (d : D) : EM D := (tab (tagOf d)).map fun b => .ok (.bl b)
theorem pk_is {c : Expr} {cv : V} {u : Value} {tab : Tag → Option Bool} (T : ClsF X.K x.A) (tb : IsTab X.K x.A u tab) (cu : ClsV cv u) (hm : X.mg "isinstance" = none) (hg : Gl X "isinstance") (hc : PE X c (tC cv)) (ha : PE X e (tK X.K x .bw f))
    (he : starEach [e, c] X.env = (false, eval e X.env) :: starEach [c] X.env := by rfl) (he2 : starEach [c] X.env = (false, eval c X.env) :: starEach [] X.env := by rfl) (hpl : (backTo pos (starEach [c] X.env)).any (·.1) = false := by rfl) :
    PE X (.Call (.Name "isinstance" p) [e, c] [] pos) (tK X.K x .fz (e1 (dIs tab) f)) :=
  pe_wk (pe_callB call_isi hg hm (by decide +kernel) (pa_cons ha (pa_cons hc pa_nil he2) he) (he := he) (hpl := hpl)) fun σ H Q ⟨F, ρ, r, S, e, w⟩ =>
    tk_step S e w.x fun d F1 H1 v G1 S1 r1 e1 => by
      unfold dIs at e1
      cases et : tab (tagOf d) with
      | none => rw [et] at e1; cases e1
      | some b =>
        rw [et] at e1
        cases (Option.some.inj e1)
        obtain ⟨ty, hh⟩ := tyX_of T S1.fh r1
        exact ⟨_, _, _, _, b, rfl, cu, ty, tb _ _ et hh, (w.grow G1).val S1.fh (.bl _) (by decide)⟩

/-! ### methods of texts -/
def eMt (h : D → List D → EM D) (g : Ro → EM D) (fs : Ro → EM (List D)) : Ro → EM D := fun ρ => bnd (g ρ) fun d => match d with
  | .str z => bnd (fs ρ) fun ds => h (.str z) ds
  | _ => none
def Mb (K : PySem.W.Frag) (x : Fx) (k : Kd) (r : V → List V → Hp → VK → Prop) (h : D → List D → EM D) : Prop := ∀ (F H : Hp) (σ : L2.St) (z : Str) (vs : List V) (ds : List D) (q : D) (Q : VK),
  Ex F H → RKL K x.A .bw F H H vs ds → h (.str z) ds = some (.ok q) → Wd K x k (.ok q) F H σ Q → r (.str z) vs H Q
def NoXm (h : D → List D → EM D) : Prop := ∀ d ds y, h d ds ≠ some (.error y)
theorem pk_mt {mid : String} {hh : D → List D → EM D} {rr : V → List V → Hp → VK → Prop} (slot : Slot "str" nm mid) (hty : typeOf (.builtin mid) = pure (.type "method_descriptor")) (hm : MtR X mid rr) (mb : Mb X.K x k rr hh) (nx : NoXm hh) (ho : PE X o (tK X.K x .bw g)) (ha : PA X (e :: es) (tA X.K x .bw fs))
    (hbase : attributeBase o nm X.env (eval o X.env) = eval o X.env := by rfl)
    (hfew : ((backTo pos (starEach (e :: es) X.env)).all (fun x => !x.1) && (backToKw pos (keywordEach [] X.env)).all (fun x => x.1.isSome)
      && decide ((e :: es).length + ([] : List Keyword).length + (if ([] : List Keyword).isEmpty then 0 else 1) < 30)) = true := by rfl)
    (hline : (apos.endLine == pos.line) = true := by rfl) (hs : starEach (e :: es) X.env = (false, eval e X.env) :: starEach es X.env := by rfl) (hplain : (backTo pos (starEach es X.env)).any (·.1) = false := by rfl) :
    PE X (.Call (.Attribute o nm apos) (e :: es) [] pos) (tK X.K x k (eMt hh g fs)) :=
  pe_wk (pe_bm PySem.F.plainAttrs_str slot hty hm ho ha hbase hfew hline hs hplain) fun σ H Q ⟨F, ρ, r, S, e, w⟩ =>
    tk_step S e w.x fun d F1 H1 v G1 S1 r1 e1 => by
      split at e1
      · rw [rk_str r1]
        refine ⟨rfl, ta_step S1 e1 (fun y hy => Wx.grow (K := X.K) G1 (w.x y hy)) fun ds F2 H2 vs G2 S2 r2 e2 => ?_⟩
        cases r with
        | error y => exact absurd e2 (nx _ _ _)
        | ok q => exact mb F2 H2 σ _ vs ds q Q S2.fh r2.bw0 e2 (w.grow (G1.trans G2))
      · cases e1
def dStr1 (c : Str → Str → Bool) (fn : Str → Str → D) (d : D) (ds : List D) : EM D := match d, ds with
  | .str a, [.str b] => if c a b = true then ok (fn a b) else none
  | _, _ => none
theorem nx_str1 {c : Str → Str → Bool} {fn : Str → Str → D} : NoXm (dStr1 c fn) := fun d ds y q => by
  unfold dStr1 at q
  split at q
  · split at q <;> cases q
  · cases q
def cLine (a _ : Str) : Bool := decide (a.length ≤ sizeLine)
def dStrip := dStr1 cLine fun a b => .str (PySem.Txt.stripChars a b)
def dRstrip := dStr1 cLine fun a b => .str (PySem.Txt.rstripChars a b)
def dStarts := dStr1 (fun _ _ => true) fun a b => .bl (PySem.Txt.startswith a b)
def dSplit := dStr1 (fun a b => (b.length != 0) && decide (a.length + 2 ≤ sizeLine)) fun a b => .lst ((PySem.Txt.split a b).map D.str)
end
end Tw
/-! TwG: targets, loops, comprehensions, lists of one's own changed. -/
namespace Tw
open PySem PySem.Spec PyProof.Rows L2

/-! ### targets -/
abbrev Tg := D → Ro → Option Ro
abbrev Tgs := List D → Ro → Option Ro
def tG (K : PySem.W.Frag) (x : Fx) (sl : List Nat) (t : Tg) : TG := fun v σ H Q => ∃ F ρ d ρ', SR K x.A x.T x.B x.F0 F H σ ρ ∧ Rep K x.A F v d ∧ t d ρ = some ρ' ∧
  ∀ σ', SR K x.A x.T x.B x.F0 F H σ' ρ' → σ'.length = σ.length → (∀ j, j ∉ sl → σ'[j]? = σ[j]?) → Q σ' H
def tGs (K : PySem.W.Frag) (x : Fx) (sl : List Nat) (t : Tgs) : TGs := fun vs σ H Q => ∃ F ρ ds ρ', SR K x.A x.T x.B x.F0 F H σ ρ ∧ RepL K x.A F vs ds ∧ t ds ρ = some ρ' ∧
  ∀ σ', SR K x.A x.T x.B x.F0 F H σ' ρ' → σ'.length = σ.length → (∀ j, j ∉ sl → σ'[j]? = σ[j]?) → Q σ' H
def gN (i : Nat) : Tg := fun d ρ => some (ρ.set i (.fz d))
def gT (t : Tgs) (n : Nat) : Tg := fun d ρ => match d with
  | .tup ds => if ds.length = n then t ds ρ else none
  | _ => none
def gs0 : Tgs := fun ds ρ => match ds with
  | [] => some ρ
  | _ => none
def gsC (t : Tg) (u : Tgs) : Tgs := fun ds ρ => match ds with
  | d :: ds => (t d ρ).bind (u ds)
  | [] => none
section
variable {X : Cx} {x : Fx} {a b : Expr} {es : List Expr} {pos : Pos} {t : Tg} {u : Tgs} {s1 s2 : List Nat}
theorem pg_wk {e : Expr} {t t' : TG} (h : PG X e t) (w : ∀ v σ H Q, t' v σ H Q → t v σ H Q) : PG X e t' := ⟨fun pins s σ H v u Q I r q => h.run pins s σ H v u Q I r (w v σ H Q q)⟩
theorem pgs_wk {es : List Expr} {t t' : TGs} (h : PGs X es t) (w : ∀ v σ H Q, t' v σ H Q → t v σ H Q) : PGs X es t' := ⟨fun pins s σ H v u Q I r q => h.run pins s σ H v u Q I r (w v σ H Q q)⟩
theorem pgd_name {i : Nat} (h : PG X a (gName i)) : PG X a (tG X.K x [i] (gN i)) := pg_wk h fun v σ H Q ⟨F, ρ, d, ρ', S, r, e, q⟩ => by
  cases (Option.some.inj e)
  refine q _ (S.setF r) (by rw [List.length_set]) fun j hj => ?_
  rw [List.getElem?_set_ne]
  intro z
  exact hj (by simp [z])
theorem pgsd_nil : PGs X [] (tGs X.K x [] gs0) := pgs_wk pgs_nil fun v σ H Q ⟨F, ρ, ds, ρ', S, r, e, q⟩ => by
  unfold gs0 at e
  split at e
  · cases (Option.some.inj e)
    cases r
    exact ⟨rfl, q σ S rfl fun _ _ => rfl⟩
  · cases e
theorem pgsd_cons (h1 : PG X a (tG X.K x s1 t)) (h2 : PGs X es (tGs X.K x s2 u)) (hs : (assignEach (a :: es) X.env).map (·.2) = assign a X.env :: (assignEach es X.env).map (·.2) := by rfl) : PGs X (a :: es) (tGs X.K x (s1 ++ s2) (gsC t u)) := pgs_wk (pgs_cons h1 h2 hs) fun v σ H Q ⟨F, ρ, ds, ρ', S, r, e, q⟩ => by
  unfold gsC at e
  cases ds with
  | nil => cases e
  | cons d ds =>
    cases r with
    | @cons v vs _ _ r rr =>
      simp only at e
      cases et : t d ρ with
      | none => rw [et] at e; cases e
      | some ρ1 =>
        rw [et] at e
        refine ⟨v, vs, rfl, F, ρ, d, ρ1, S, r, et, fun σ1 S1 l1 k1 => ⟨F, ρ1, ds, ρ', S1, rr, e, fun σ2 S2 l2 k2 => q σ2 S2 (l2.trans l1) fun j hj => ?_⟩⟩
        simp only [List.mem_append, not_or] at hj
        exact (k2 j hj.2).trans (k1 j hj.1)
theorem pgd_tup {k n : Nat} (hc : X.calm = true) (h : PGs X es (tGs X.K x s1 u)) (hn : (assignEach es X.env).length = n := by rfl) (hst : (assignEach es X.env).findIdx? (·.1) = none := by rfl) : PG X (.Tuple es k pos) (tG X.K x s1 (gT u n)) := pg_wk (pg_tup hc h hn hst) fun v σ H Q ⟨F, ρ, d, ρ', S, r, e, q⟩ => by
  unfold gT at e
  split at e
  · split at e
    · rename_i hl
      cases r with
      | tup h1 rr => exact ⟨_, _, rfl, .of (S.fh _ _ h1), by rw [rr.length]; exact hl, F, ρ, _, ρ', S, rr, e, q⟩
    · cases e
  · cases e
/-- a, b = e -/
def sUnp (t : Tg) (f : Ro → EM D) : Ro → Option Fl := fun ρ => toS ρ (f ρ) fun d => (t d ρ).map .nx
theorem pks_unp {f : Ro → EM D} {st : Stmt} (hst : ∀ te g, PE X a te → PG X b g → PS X st (tAsg te g)) (he : PE X a (tK X.K x .fz f)) (hg : PG X b (tG X.K x s1 t)) : PS X st (tS X.K x (sUnp t f)) := ps_wk (hst _ _ he hg) fun E σ H ⟨F, ρ, fl, S, e, w⟩ =>
  ts_step S e w fun d F' H' v G S' r e' w' => by
    cases et : t d ρ with
    | none => rw [et] at e'; cases e'
    | some ρ1 =>
      rw [et] at e'
      cases (Option.some.inj e')
      exact ⟨F', ρ, d, ρ1, S', r, et, fun σ' S2 _ _ => w' F' H' σ' (.refl _) S2⟩
/-- a, b = x, y -/
def sPar (i j : Nat) (fs : Ro → EM (List D)) : Ro → Option Fl := fun ρ => toS ρ (fs ρ) fun ds => match ds with
  | [d, e] => some (.nx ((ρ.set i (.fz d)).set j (.fz e)))
  | _ => none
theorem tas_step {K : PySem.W.Frag} {k : Kd} {f : Ro → EM (List D)} {g : List D → Option Fl} {fl : Fl} {F H : Hp} {σ : L2.St} {ρ : Ro} {E : Ends} {Q : List V → Hp → Prop} (S : SR K x.A x.T x.B x.F0 F H σ ρ) (e : toS ρ (f ρ) g = some fl) (w : WdS K x fl F E)
    (hk : ∀ d F' H' v, Grow F H F' H' → SR K x.A x.T x.B x.F0 F' H' σ ρ → RKL K x.A k F' H H' v d → g d = some fl → WdS K x fl F' E → Q v H') : tA K x k f σ H Q := by
  unfold toS at e
  cases ef : f ρ with
  | none => rw [ef] at e; cases e
  | some q =>
    rw [ef] at e
    cases q with
    | error y =>
      cases (Option.some.inj e)
      exact ⟨F, ρ, .error y, S, ef, WdS.wx S w⟩
    | ok d => exact ⟨F, ρ, .ok d, S, ef, fun F' H' v G r' => hk d F' H' v G (S.grow G) r' e (w.mono G.f)⟩
theorem pks_par {i j : Nat} {fs : Ro → EM (List D)} {st : Stmt} (hst : ∀ ta, PA X [a, b] ta → PS X st (tPar i j ta)) (ha : PA X [a, b] (tA X.K x .fz fs)) : PS X st (tS X.K x (sPar i j fs)) := ps_wk (hst _ ha) fun E σ H ⟨F, ρ, fl, S, e, w⟩ =>
  tas_step S e w fun ds F' H' vs G S' r e' w' => by
    split at e'
    · cases (Option.some.inj e')
      obtain ⟨v, u, rfl, r1, r2⟩ := rkl2 r
      exact ⟨v, u, rfl, w' F' H' _ (.refl _) ((S'.setF r1).setF r2)⟩
    · cases e'
def sPar3 (i j l : Nat) (fs : Ro → EM (List D)) : Ro → Option Fl := fun ρ => toS ρ (fs ρ) fun ds => match ds with
  | [d, e, c] => some (.nx (((ρ.set i (.fz d)).set j (.fz e)).set l (.fz c)))
  | _ => none
theorem pks_par3 {i j l : Nat} {c : Expr} {fs : Ro → EM (List D)} {st : Stmt} (hst : ∀ ta, PA X [a, b, c] ta → PS X st (tPar3 i j l ta)) (ha : PA X [a, b, c] (tA X.K x .fz fs)) : PS X st (tS X.K x (sPar3 i j l fs)) := ps_wk (hst _ ha) fun E σ H ⟨F, ρ, fl, S, e, w⟩ =>
  tas_step S e w fun ds F' H' vs G S' r e' w' => by
    split at e'
    · cases (Option.some.inj e')
      cases r with
      | cons r1 r => cases r with
        | cons r2 r => cases r with
          | cons r3 r =>
            cases r
            exact ⟨_, _, _, rfl, w' F' H' _ (.refl _) (((S'.setF r1).setF r2).setF r3)⟩
    · cases e'
/-- name op= e -/
def sAug (i : Nat) (h : D → D → EM D) (f : Ro → EM D) : Ro → Option Fl := fun ρ => match ρ[i]? with
  | some (.fz d) => toS ρ (f ρ) fun e => toS ρ (h d e) fun z => some (.nx (ρ.set i (.fz z)))
  | _ => none
theorem pks_aug {i : Nat} {f : Ro → EM D} {h : D → D → EM D} {r : R2} {st : Stmt} (hr : Op2 X.K x .fz r h) (hn : NoX h) (hst : ∀ te, PE X a te → PS X st (tAug i te r)) (ha : PE X a (tK X.K x .bw f)) : PS X st (tS X.K x (sAug i h f)) := ps_wk (hst _ ha) fun E σ H ⟨F, ρ, fl, S, e, w⟩ => by
  unfold sAug at e
  split at e
  · rename_i d ed
    obtain ⟨v, hv, rv⟩ := S.fz i d ed
    refine ⟨v, hv, ts_step S e w fun c F1 H1 u G S1 ru e1 w1 => ?_⟩
    unfold toS at e1
    cases eh : h d c with
    | none => rw [eh] at e1; cases e1
    | some q =>
      rw [eh] at e1
      cases q with
      | error y => exact absurd eh (hn _ _ _)
      | ok z =>
        cases (Option.some.inj e1)
        exact hr F1 H1 σ v u d c z _ S1.fh (.inl (rv.mono G.f)) ru eh fun F2 H2 y G2 r2 => w1 F2 H2 _ G2.f ((S1.grow G2).setF r2)
  · cases e

/-! ### lists of one's own -/
/-- xs.append(e) -/
def sApp (i : Nat) (f : Ro → EM D) : Ro → Option Fl := fun ρ => toS ρ (f ρ) fun d => match ρ[i]? with
  | some (.ow ds) => if ds.length < sizeLine then some (.nx (ρ.set i (.ow (ds ++ [d])))) else none
  | _ => none
/-- whether a slot has a list of its own -/
def isOw (i : Nat) (ρ : Ro) : Bool := match ρ[i]? with
  | some (.ow _) => true
  | _ => false
theorem isOw_some {i : Nat} {ρ : Ro} (h : isOw i ρ = true) : ∃ ds, ρ[i]? = some (.ow ds) := by
  unfold isOw at h
  split at h
  · exact ⟨_, by assumption⟩
  · cases h
def gdO (i : Nat) (g : Ro → Option Fl) : Ro → Option Fl := fun ρ => if isOw i ρ = true then g ρ else none
theorem pks_app {i : Nat} {f : Ro → EM D} {st : Stmt} (hst : ∀ te ta, PE X a te → PA X [b] ta → PS X st (tDrop (tBM X.K "list" rAppend te ta))) (ha : PE X a (tVar i)) (hb : PE X b (tK X.K x .fz f)) (hs : starEach [b] X.env = (false, eval b X.env) :: starEach [] X.env := by rfl) : PS X st (tS X.K x (gdO i (sApp i f))) :=
  ps_wk (hst _ _ ha (pa_cons hb pa_nil hs)) fun E σ H ⟨F, ρ, fl, S, e, w⟩ => by
    unfold gdO at e
    split at e
    · rename_i ho
      obtain ⟨ds, eo⟩ := isOw_some ho
      obtain ⟨l, vs, h1, h2, h3, h4, h5⟩ := S.ow i ds eo
      refine ⟨_, h1, .inl ⟨rfl, _, .of h4⟩, ?_⟩
      exact ts_step S e w fun d F1 H1 v G S1 r e1 w1 => by
        rw [eo] at e1
        simp only at e1
        split at e1
        · rename_i hz
          cases (Option.some.inj e1)
          refine ⟨l, vs, v, rfl, rfl, G.h _ _ h4, by rw [h5.length]; exact hz, w1 _ _ _ (.refl _) (S1.write eo h1 ((h5.mono G.f).app (.one r)))⟩
        · cases e1
    · cases e
/-- xs.extend(ys) -/
def sExt (i : Nat) (f : Ro → EM D) : Ro → Option Fl := fun ρ => toS ρ (f ρ) fun d => match ρ[i]?, d with
  | some (.ow ds), .lst es => if ds.length + es.length ≤ sizeLine then some (.nx (ρ.set i (.ow (ds ++ es)))) else none
  | _, _ => none
theorem pks_ext {i : Nat} {f : Ro → EM D} {st : Stmt} (hst : ∀ te ta, PE X a te → PA X [b] ta → PS X st (tDrop (tBM X.K "list" rExtend te ta))) (ha : PE X a (tVar i)) (hb : PE X b (tK X.K x .bw f)) (hs : starEach [b] X.env = (false, eval b X.env) :: starEach [] X.env := by rfl) : PS X st (tS X.K x (gdO i (sExt i f))) :=
  ps_wk (hst _ _ ha (pa_cons hb pa_nil hs)) fun E σ H ⟨F, ρ, fl, S, e, w⟩ => by
    unfold gdO at e
    split at e
    · rename_i ho
      obtain ⟨ds, eo⟩ := isOw_some ho
      obtain ⟨l, vs, h1, h2, h3, h4, h5⟩ := S.ow i ds eo
      refine ⟨_, h1, .inl ⟨rfl, _, .of h4⟩, ?_⟩
      exact ts_step S e w fun d F1 H1 v G S1 r e1 w1 => by
        split at e1
        · rename_i ds' es eo'
          rw [eo] at eo'
          cases (Option.some.inj eo')
          split at e1
          · rename_i hz
            cases (Option.some.inj e1)
            obtain ⟨p, ws, rfl, q1, q2⟩ := r.lst S1.fh
            exact ⟨l, p, vs, ws, rfl, rfl, G.h _ _ h4, q1, by rw [h5.length, q2.length]; exact hz, w1 _ _ _ (.refl _) (S1.write eo h1 ((h5.mono G.f).app q2))⟩
          · cases e1
        · cases e1
    · cases e
/-- xs.clear() -/
def sClear (i : Nat) : Ro → Option Fl := fun ρ => match ρ[i]? with
  | some (.ow _) => some (.nx (ρ.set i (.ow [])))
  | _ => none
theorem pks_clear {i : Nat} {st : Stmt} (hst : ∀ te, PE X a te → PS X st (tDrop (tBM0 X.K "list" rClear te))) (ha : PE X a (tVar i)) : PS X st (tS X.K x (sClear i)) := ps_wk (hst _ ha) fun E σ H ⟨F, ρ, fl, S, e, w⟩ => by
  unfold sClear at e
  split at e
  · rename_i ds eo
    cases (Option.some.inj e)
    obtain ⟨l, vs, h1, h2, h3, h4, h5⟩ := S.ow i ds eo
    exact ⟨_, h1, .inl ⟨rfl, _, .of h4⟩, l, vs, rfl, rfl, h4, w _ _ _ (.refl _) (S.write eo h1 .nil)⟩
  · cases e
/-- xs[j] = e -/
def sSetI (i : Nat) (f g : Ro → EM D) : Ro → Option Fl := fun ρ => toS ρ (f ρ) fun d => toS ρ (g ρ) fun j => match ρ[i]?, j with
  | some (.ow ds), .int j => match ixN ds.length j with
    | some n => some (.nx (ρ.set i (.ow (ds.set n d))))
    | none => none
  | _, _ => none
theorem pks_setI {i : Nat} {f g : Ro → EM D} {c : Expr} {st : Stmt} (hst : ∀ te to ti, PE X c te → PE X a to → PE X b ti → PS X st (tAsg te (gSub to ti rSetL))) (ha : PE X a (tVar i)) (hc : PE X c (tK X.K x .fz f)) (hb : PE X b (tK X.K x .bw g)) : PS X st (tS X.K x (gdO i (sSetI i f g))) :=
  ps_wk (hst _ _ _ hc ha hb) fun E σ H ⟨F, ρ, fl, S, e, w⟩ => by
    unfold gdO at e
    split at e
    · rename_i ho
      obtain ⟨ds, eo⟩ := isOw_some ho
      obtain ⟨l, vs, h1, h2, h3, h4, h5⟩ := S.ow i ds eo
      exact ts_step S e w fun d F1 H1 v G S1 r e1 w1 => ⟨_, h1, ts_step S1 e1 w1 fun j F2 H2 u G2 S2 r2 e2 w2 => by
        split at e2
        · rename_i ds' j eo'
          rw [eo] at eo'
          cases (Option.some.inj eo')
          split at e2
          · rename_i n hn
            cases (Option.some.inj e2)
            rw [rk_int r2]
            exact ⟨l, vs, _, n, rfl, rfl, G2.h _ _ (G.h _ _ h4), by rw [h5.length]; exact hn, w2 _ _ _ (.refl _) (S2.write eo h1 (((h5.mono G.f).mono G2.f).set n (Rep.mono G2.f r)))⟩
          · cases e2
        · cases e2⟩
    · cases e
/-- an expression whose value is dropped -/
def sDrop (f : Ro → EM D) : Ro → Option Fl := fun ρ => toS ρ (f ρ) fun _ => some (.nx ρ)
theorem pks_drop {f : Ro → EM D} {k : Kd} {st : Stmt} (hst : ∀ te, PE X a te → PS X st (tDrop te)) (ha : PE X a (tK X.K x k f)) : PS X st (tS X.K x (sDrop f)) := ps_wk (hst _ ha) fun E σ H ⟨F, ρ, fl, S, e, w⟩ =>
  ts_step S e w fun d F1 H1 v G S1 r e1 w1 => by
    cases (Option.some.inj e1)
    exact w1 _ _ _ (.refl _) S1

/-! ### what is walked -/
structure ItD (K : PySem.W.Frag) (A : Ad) (J : It) (F : Hp) (ds : List D) : Prop where
  go : ∀ (i : Nat) d H, Ex F H → ds[i]? = some d → J.go i H
  stop : ∀ (i : Nat) H, Ex F H → ds.length ≤ i → J.stop i H
  yld : ∀ (i : Nat) d F1 H v H', Ex F F1 → Ex F1 H → ds[i]? = some d → J.yld i H v H' → ∃ F2, Grow F1 H F2 H' ∧ Rep K A F2 v d
/-- .. beside F a heap G of lists that stay -/
structure ItG (K : PySem.W.Frag) (A : Ad) (J : It) (F G : Hp) (ds : List D) : Prop where
  go : ∀ (i : Nat) d H, Ex F H → Ex G H → ds[i]? = some d → J.go i H
  stop : ∀ (i : Nat) H, Ex F H → Ex G H → ds.length ≤ i → J.stop i H
  yld : ∀ (i : Nat) d F1 H v H', Ex F F1 → Ex F1 H → Ex G H → ds[i]? = some d → J.yld i H v H' → ∃ F2, Grow F1 H F2 H' ∧ Rep K A F2 v d
def LstH (G : Hp) : Prop := ∀ a o, G a = some o → ∃ vs, o = .lst vs
theorem ItD.g {K : PySem.W.Frag} {A : Ad} {J : It} {F G : Hp} {ds : List D} (h : ItD K A J F ds) : ItG K A J F G ds :=
  ⟨fun i d H e _ hd => h.go i d H e hd, fun i H e _ hi => h.stop i H e hi, fun i d F1 H v H' e1 e2 _ hd hy => h.yld i d F1 H v H' e1 e2 hd hy⟩
def WdI (K : PySem.W.Frag) (x : Fx) (r : Except Xn (List D)) (F H : Hp) (σ : L2.St) (R : It → Hp → Prop) : Prop := match r with
  | .ok ds => ∀ F' H' J G, Grow F H F' H' → Ex G x.B → LstH G → ItG K x.A J F' G ds → R J H'
  | .error e => Wx K x F H σ e
theorem WdI.d {K : PySem.W.Frag} {x : Fx} {ds : List D} {F H : Hp} {σ : L2.St} {R : It → Hp → Prop} (w : WdI K x (.ok ds) F H σ R) (F' H' : Hp) (J : It) (G : Grow F H F' H') (h : ItD K x.A J F' ds) : R J H' :=
  w F' H' J (fun _ => none) G (fun _ _ z => nomatch z) (fun _ _ z => nomatch z) h.g
def tI (K : PySem.W.Frag) (x : Fx) (f : Ro → EM (List D)) : TI := fun σ H R => ∃ F ρ r, SR K x.A x.T x.B x.F0 F H σ ρ ∧ f ρ = some r ∧ WdI K x r F H σ R
theorem pi_wk {tg e : Expr} {t t' : TI} (h : PI X tg e t) (w : ∀ σ H Q, t' σ H Q → t σ H Q) : PI X tg e t' := ⟨fun pins s σ H Q I q => h.run pins s σ H Q I (w σ H Q q)⟩
theorem itd_list {K : PySem.W.Frag} {A : Ad} {F : Hp} {a : Addr} {vs : List V} {ds : List D} (h : SqL K F a vs) (uniq : ∀ H xs, Ex F H → SqL K H a xs → (∀ ys, SqL K H a ys → ys = xs)) (r : RepL K A F vs ds) : ItD K A (Itl K a) F ds where
  go := fun i d H e hd => by
    obtain ⟨v, h1, _⟩ := r.get hd
    exact ⟨vs, v, e.sqL h, h1⟩
  stop := fun i H e hi => ⟨vs, e.sqL h, by rw [r.length]; exact hi⟩
  yld := fun i d F1 H v H' e1 e2 hd hy => by
    obtain ⟨e, hy⟩ := hy
    subst e
    obtain ⟨u, h1, h2⟩ := r.get hd
    have := hy vs ((e1.trans e2).sqL h)
    rw [h1] at this
    cases (Option.some.inj this)
    exact ⟨F1, .refl e2, h2.mono e1⟩
end
section
variable {X : Cx} {x : Fx} {a b : Expr} {es : List Expr} {pos p : Pos} {f : Ro → EM D} {fs : Ro → EM (List D)}
/-- a list, a tuple, the script -/
def dIt (d : D) : EM (List D) := match d with
  | .lst xs => ok xs
  | .tup xs => ok xs
  | .scr ns => ok (ns.map D.int)
  | _ => none
def iOf (f : Ro → EM D) : Ro → EM (List D) := fun ρ => bnd (f ρ) dIt
theorem itd_lst {K : PySem.W.Frag} {A : Ad} {F : Hp} {a : Addr} {vs : List V} {ds : List D} (h : SqL K F a vs) (r : RepL K A F vs ds) : ItD K A (Itl K a) F ds where
  go := fun i d H e hd => by
    obtain ⟨v, h1, _⟩ := r.get hd
    exact ⟨vs, v, e.sqL h, h1⟩
  stop := fun i H e hi => ⟨vs, e.sqL h, by rw [r.length]; exact hi⟩
  yld := fun i d F1 H v H' e1 e2 hd hy => by
    obtain ⟨e, hy⟩ := hy
    subst e
    obtain ⟨u, h1, h2⟩ := r.get hd
    have := hy vs ((e1.trans e2).sqL h)
    rw [h1] at this
    cases (Option.some.inj this)
    exact ⟨F1, .refl e2, h2.mono e1⟩
theorem itd_tup {K : PySem.W.Frag} {A : Ad} {F : Hp} {a : Addr} {vs : List V} {ds : List D} (h : SqT K F a vs) (r : RepL K A F vs ds) : ItD K A (Itt K a) F ds where
  go := fun i d H e hd => by
    obtain ⟨v, h1, _⟩ := r.get hd
    exact ⟨vs, v, e.sqT h, h1⟩
  stop := fun i H e hi => ⟨vs, e.sqT h, by rw [r.length]; exact hi⟩
  yld := fun i d F1 H v H' e1 e2 hd hy => by
    obtain ⟨e, hy⟩ := hy
    subst e
    obtain ⟨u, h1, h2⟩ := r.get hd
    have := hy vs ((e1.trans e2).sqT h)
    rw [h1] at this
    cases (Option.some.inj this)
    exact ⟨F1, .refl e2, h2.mono e1⟩
theorem pid_list {tg : Expr} (h : PE X a (tK X.K x .fz f)) : PI X tg a (tI X.K x (iOf f)) := by
  have hl : PI X tg a (iList X.K (tK X.K x .fz f)) := pi_list h
  have ht : PI X tg a (iTup X.K (tK X.K x .fz f)) := pi_tup h
  have hb : PI X tg a (fun σ H R => iList X.K (tK X.K x .fz f) σ H R ∨ iTup X.K (tK X.K x .fz f) σ H R) := ⟨fun pins s σ H R I q => q.elim (hl.run pins s σ H R I) (ht.run pins s σ H R I)⟩
  refine pi_wk hb fun σ H R ⟨F, ρ, r, S, e, w⟩ => ?_
  cases ef : f ρ with
  | none => unfold iOf at e; rw [ef] at e; cases e
  | some q =>
    unfold iOf at e
    rw [ef] at e
    cases q with
    | error y =>
      cases (Option.some.inj e)
      exact .inl ⟨F, ρ, .error y, S, ef, w⟩
    | ok d =>
      simp only [bnd] at e
      unfold dIt at e
      split at e
      · cases (Option.some.inj e)
        refine .inl ⟨F, ρ, .ok _, S, ef, fun F1 H1 v G r1 => ?_⟩
        have r1' : Rep X.K x.A F1 v (.lst _) := r1
        cases r1' with
        | lst h1 rr => exact ⟨_, rfl, ⟨_, .of (G.i _ _ h1)⟩, WdI.d w F1 H1 _ G (itd_lst (.of h1) rr)⟩
      · cases (Option.some.inj e)
        refine .inr ⟨F, ρ, .ok _, S, ef, fun F1 H1 v G r1 => ?_⟩
        have r1' : Rep X.K x.A F1 v (.tup _) := r1
        cases r1' with
        | tup h1 rr => exact ⟨_, rfl, ⟨_, .of (G.i _ _ h1)⟩, WdI.d w F1 H1 _ G (itd_tup (.of h1) rr)⟩
      · cases (Option.some.inj e)
        refine .inl ⟨F, ρ, .ok _, S, ef, fun F1 H1 v G r1 => ?_⟩
        have r1' : Rep X.K x.A F1 v (.scr _) := r1
        cases r1' with
        | scr h1 => exact ⟨_, rfl, ⟨_, G.i.sqL h1⟩, WdI.d w F1 H1 _ G (itd_lst h1 (.ints _))⟩
      · cases e
/-- range -/
def dRng1 (ds : List D) : EM (List D) := match ds with
  | [.int j] => if -(2 ^ 62) ≤ j ∧ j < 2 ^ 62 then ok ((List.range j.toNat).map fun (i : Nat) => .int (i : Int)) else none
  | _ => none
def dRng2 (ds : List D) : EM (List D) := match ds with
  | [.int i, .int j] => if -(2 ^ 62) ≤ i ∧ i < 2 ^ 62 ∧ -(2 ^ 62) ≤ j ∧ j < 2 ^ 62 then ok ((List.range (j - i).toNat).map fun (k : Nat) => .int (i + (k : Int))) else none
  | _ => none
def iRg (h : List D → EM (List D)) (fs : Ro → EM (List D)) : Ro → EM (List D) := fun ρ => bnd (fs ρ) h
theorem itd_rng {K : PySem.W.Frag} {A : Ad} {F : Hp} {lo : Int} {n : Nat} : ItD K A (Itr lo n) F ((List.range n).map fun (k : Nat) => .int (lo + (k : Int))) where
  go := fun i d H e hd => by
    have := (List.getElem?_eq_some_iff.mp hd).1
    rw [List.length_map, List.length_range] at this
    exact this
  stop := fun i H e hi => by
    rw [List.length_map, List.length_range] at hi
    exact hi
  yld := fun i d F1 H v H' e1 e2 hd hy => by
    obtain ⟨e, hy⟩ := hy
    subst e hy
    rw [List.getElem?_map] at hd
    cases q : (List.range n)[i]? with
    | none => rw [q] at hd; cases hd
    | some k =>
      rw [q] at hd
      cases (Option.some.inj hd)
      obtain ⟨h1, h2⟩ := List.getElem?_eq_some_iff.mp q
      rw [List.getElem_range] at h2
      subst h2
      exact ⟨F1, .refl e2, .int _⟩
theorem pid_range1 {tg : Expr} (hm : X.mg "range" = none) (hg : Gl X "range") (ha : PA X [a] (tA X.K x .bw fs)) (hs : starEach [a] X.env = [(false, eval a X.env)] := by rfl) : PI X tg (.Call (.Name "range" p) [a] [] pos) (tI X.K x (iRg dRng1 fs)) :=
  pi_wk (pi_range1 hg hm ha hs) fun σ H R ⟨F, ρ, r, S, e, w⟩ => ta_step S e (fun y hy => by subst hy; exact w) fun ds F1 H1 vs G S1 r1 e1 => by
    unfold dRng1 at e1
    split at e1
    · rename_i j
      split at e1
      · rename_i hj
        cases (Option.some.inj e1)
        obtain ⟨v, rfl, rv⟩ := rkl1 r1
        rw [rk_int rv]
        refine ⟨_, rfl, hj.1, hj.2, WdI.d w F1 H1 _ G ?_⟩
        have q := itd_rng (K := X.K) (A := x.A) (F := F1) (lo := 0) (n := j.toNat)
        have e : ((List.range j.toNat).map fun (k : Nat) => D.int (0 + (k : Int))) = (List.range j.toNat).map fun (k : Nat) => D.int (k : Int) := by
          apply List.map_congr_left
          intro k _
          rw [Int.zero_add]
        rw [e] at q
        exact q
      · cases e1
    · cases e1
theorem pid_range2 {tg : Expr} (hm : X.mg "range" = none) (hg : Gl X "range") (ha : PA X [a, b] (tA X.K x .bw fs)) (hs : starEach [a, b] X.env = [(false, eval a X.env), (false, eval b X.env)] := by rfl) (hs2 : starEach [b] X.env = [(false, eval b X.env)] := by rfl) : PI X tg (.Call (.Name "range" p) [a, b] [] pos) (tI X.K x (iRg dRng2 fs)) :=
  pi_wk (pi_range2 hg hm ha hs hs2) fun σ H R ⟨F, ρ, r, S, e, w⟩ => ta_step S e (fun y hy => by subst hy; exact w) fun ds F1 H1 vs G S1 r1 e1 => by
    unfold dRng2 at e1
    split at e1
    · split at e1
      · rename_i hj
        cases (Option.some.inj e1)
        obtain ⟨v, u, rfl, rv, ru⟩ := rkl2 r1
        rw [rk_int rv, rk_int ru]
        exact ⟨_, _, rfl, hj, WdI.d w F1 H1 _ G itd_rng⟩
      · cases e1
    · cases e1
/-- enumerate -/
def enumD (i : Nat) : List D → List D
  | [] => []
  | d :: ds => .tup [.int (i : Nat), d] :: enumD (i + 1) ds
theorem enumD_get : ∀ {ds : List D} {j i : Nat}, (enumD j ds)[i]? = (ds[i]?).map fun d => .tup [.int ((j + i : Nat) : Int), d]
  | [], j, i => by simp [enumD]
  | d :: ds, j, 0 => by simp [enumD]
  | d :: ds, j, i + 1 => by
    show (enumD (j + 1) ds)[i]? = _
    rw [enumD_get, List.getElem?_cons_succ]
    congr 1
    funext d
    rw [show j + 1 + i = j + (i + 1) by omega]
theorem enumD_len : ∀ {ds : List D} {j : Nat}, (enumD j ds).length = ds.length
  | [], _ => rfl
  | d :: ds, j => by
    show (enumD (j + 1) ds).length + 1 = _
    rw [enumD_len]
    rfl
def iEn (f : Ro → EM D) : Ro → EM (List D) := fun ρ => bnd (f ρ) fun d => match d with
  | .lst xs => ok (enumD 0 xs)
  | _ => none
theorem pid_enum {elts : List Expr} {kk : Nat} {tpos : Pos} (hm : X.mg "enumerate" = none) (hg : Gl X "enumerate") (ha : PE X a (tK X.K x .fz f)) (he : starEach [a] X.env = (false, eval a X.env) :: starEach [] X.env := by rfl) (hs : starEach [a] X.env = [(false, eval a X.env)] := by rfl) : PI X (.Tuple elts kk tpos) (.Call (.Name "enumerate" p) [a] [] pos) (tI X.K x (iEn f)) :=
  pi_wk (pi_enum hg hm (pa_cons ha pa_nil he) hs) fun σ H R ⟨F, ρ, r, S, e, w⟩ => tk_step S e (fun y hy => by subst hy; exact w) fun d F1 H1 v G S1 r1 e1 => by
    split at e1
    · rename_i ds
      cases (Option.some.inj e1)
      have r1' : Rep X.K x.A F1 v (.lst ds) := r1
      cases r1' with
      | @lst a' vs _ h1 rr =>
        refine ⟨a', vs, rfl, .of (S1.fh _ _ h1), WdI.d w F1 H1 _ G ⟨fun i d H e hd => ?_, fun i H e hi => ?_, fun i d F2 H v H' e1 e2 hd hy => ?_⟩⟩
        · rw [enumD_get] at hd
          cases q : ds[i]? with
          | none => rw [q] at hd; cases hd
          | some d' =>
            obtain ⟨u, q1, _⟩ := rr.get q
            exact ⟨vs, u, .of (e _ _ h1), q1⟩
        · rw [enumD_len] at hi
          exact ⟨vs, .of (e _ _ h1), by rw [rr.length]; exact hi⟩
        · rw [enumD_get] at hd
          cases q : ds[i]? with
          | none => rw [q] at hd; cases hd
          | some d' =>
            rw [q] at hd
            cases (Option.some.inj hd)
            obtain ⟨u, q1, q2⟩ := rr.get q
            obtain ⟨T, y, rfl, hT, rfl, hy⟩ := hy
            have := hy vs (.of ((e1.trans e2) _ _ h1))
            rw [q1] at this
            cases (Option.some.inj this)
            have fr := Grow.new (o := HO.tup [.int (i : Nat), u]) e2 hT
            refine ⟨_, fr, Rep.tup upd_same (.cons ?_ (.one ((q2.mono e1).mono fr.f)))⟩
            rw [Nat.zero_add]
            exact .int _
    · cases e1

/-! ### for, while -/
def forD (t : Tg) (g : Ro → Option Fl) : List D → Ro → Option Fl
  | [], ρ => some (.nx ρ)
  | d :: ds, ρ => match t d ρ with
    | none => none
    | some ρ1 => match g ρ1 with
      | some (.nx ρ2) => forD t g ds ρ2
      | some (.ct ρ2) => forD t g ds ρ2
      | some (.bk ρ2) => some (.nx ρ2)
      | o => o
def sFor (t : Tg) (fi : Ro → EM (List D)) (g : Ro → Option Fl) : Ro → Option Fl := fun ρ => toS ρ (fi ρ) fun ds => forD t g ds ρ
theorem ti_step {fi : Ro → EM (List D)} {g : List D → Option Fl} {fl : Fl} {F H : Hp} {σ : L2.St} {ρ : Ro} {E : Ends} {R : It → Hp → Prop} (S : SR X.K x.A x.T x.B x.F0 F H σ ρ) (e : toS ρ (fi ρ) g = some fl) (w : WdS X.K x fl F E)
    (hk : ∀ ds F' H' J G', Grow F H F' H' → SR X.K x.A x.T x.B x.F0 F' H' σ ρ → Ex G' x.B → LstH G' → ItG X.K x.A J F' G' ds → g ds = some fl → WdS X.K x fl F' E → R J H') : tI X.K x fi σ H R := by
  unfold toS at e
  cases ef : fi ρ with
  | none => rw [ef] at e; cases e
  | some q =>
    rw [ef] at e
    cases q with
    | error y =>
      cases (Option.some.inj e)
      exact ⟨F, ρ, .error y, S, ef, WdS.wx S w⟩
    | ok d => exact ⟨F, ρ, .ok d, S, ef, fun F' H' J G' G eG lG hi => hk d F' H' J G' G (S.grow G) eG lG hi e (w.mono G.f)⟩
theorem pks_for {tg iter : Expr} {body : List Stmt} {t : Tg} {sl : List Nat} {fi : Ro → EM (List D)} {g : Ro → Option Fl} (hp : PassesOwn (model X.prog X.w) X.A X.env X.xe) (hc : X.calm = true) (hi : PI X tg iter (tI X.K x fi)) (hg : PG X tg (tG X.K x sl t)) (hb : PSs X body (tS X.K x g))
    (hs : ∀ z, foldedSetIterable iter X.env z = pure z := by intro _; rfl) : PS X (.For tg iter body [] pos) (tS X.K x (sFor t fi g)) := ps_wk (ps_for hp hc hi hg hb hs) fun E σ H ⟨F, ρ, fl, S, e, w⟩ =>
  ti_step S e w fun ds F1 H1 J Gq G1 S1 eG lG hi e1 w1 => by
    refine ⟨fun i m σ' H' => m = ds.length - i ∧ ∃ F2 ρ2, Ex F1 F2 ∧ SR X.K x.A x.T x.B x.F0 F2 H' σ' ρ2 ∧ forD t g (ds.drop i) ρ2 = some fl, ⟨ds.length, rfl, F1, ρ, .refl _, S1, e1⟩, ?_⟩
    rintro i m σ2 H2 ⟨rfl, F2, ρ2, ex, S2, e2⟩
    cases ed : ds[i]? with
    | none =>
      have hl : ds.length ≤ i := List.getElem?_eq_none_iff.mp ed
      rw [List.drop_eq_nil_of_le hl] at e2
      cases (Option.some.inj e2)
      exact .inl ⟨hi.stop i H2 (ex.trans S2.fh) (eG.trans S2.bh) hl, w1 F2 H2 σ2 ex S2⟩
    | some d =>
      have hlt : i < ds.length := (List.getElem?_eq_some_iff.mp ed).1
      have hd : ds.drop i = d :: ds.drop (i + 1) := by
        rw [List.drop_eq_getElem_cons hlt, (List.getElem?_eq_some_iff.mp ed).2]
      rw [hd] at e2
      refine .inr ⟨hi.go i d H2 (ex.trans S2.fh) (eG.trans S2.bh) ed, fun σ' H' => ∃ F3 ρ3, Ex F1 F3 ∧ SR X.K x.A x.T x.B x.F0 F3 H' σ' ρ3 ∧ forD t g (ds.drop (i + 1)) ρ3 = some fl, fun σ' H' n => ⟨ds.length - (i + 1), by omega, rfl, n⟩, fun v H' hy => ?_⟩
      obtain ⟨F3, G3, rv⟩ := hi.yld i d F2 H2 v H' ex S2.fh (eG.trans S2.bh) ed hy
      have S3 := S2.grow G3
      unfold forD at e2
      cases et : t d ρ2 with
      | none => rw [et] at e2; cases e2
      | some ρ3 =>
        rw [et] at e2
        dsimp only at e2
        refine ⟨F3, ρ2, d, ρ3, S3, rv, et, fun σ4 S4 _ _ => ?_⟩
        have ex3 := ex.trans G3.f
        cases eg : g ρ3 with
        | none => rw [eg] at e2; cases e2
        | some f4 =>
          rw [eg] at e2
          refine ⟨F3, ρ3, f4, S4, eg, ?_⟩
          cases f4 with
          | nx ρ4 => exact fun F5 H5 σ5 e5 S5 => ⟨F5, ρ4, ex3.trans e5, S5, e2⟩
          | ct ρ4 => exact fun F5 H5 σ5 e5 S5 => ⟨F5, ρ4, ex3.trans e5, S5, e2⟩
          | bk ρ4 =>
            cases (Option.some.inj e2)
            exact fun F5 H5 σ5 e5 S5 => w1 F5 H5 σ5 (ex3.trans e5) S5
          | rt d => cases (Option.some.inj e2); exact w1
          | rto d => cases (Option.some.inj e2); exact w1
          | ex y ρ4 => cases (Option.some.inj e2); exact WdS.mono (fl := .ex y ρ4) ex3 w1
def whileN (c : Ro → EM Bool) (g : Ro → Option Fl) : Nat → Ro → Option Fl
  | 0, _ => none
  | n + 1, ρ => toS ρ (c ρ) fun b => if b = true then match g ρ with
      | some (.nx ρ2) => whileN c g n ρ2
      | some (.ct ρ2) => whileN c g n ρ2
      | some (.bk ρ2) => some (.nx ρ2)
      | o => o
    else some (.nx ρ)
theorem toS_imp {α : Type} {ρ : Ro} {m : EM α} {g g' : α → Option Fl} {fl : Fl} (h : ∀ a, g a = some fl → g' a = some fl) (e : toS ρ m g = some fl) : toS ρ m g' = some fl := by
  unfold toS at e ⊢
  split at e
  · cases e
  · exact e
  · exact h _ e
theorem whileN_le (c : Ro → EM Bool) (g : Ro → Option Fl) : ∀ (n m : Nat) (ρ : Ro) (fl : Fl), n ≤ m → whileN c g n ρ = some fl → whileN c g m ρ = some fl
  | 0, _, _, _, _, e => by cases e
  | n + 1, 0, _, _, h, _ => by omega
  | n + 1, m + 1, ρ, fl, h, e => by
    unfold whileN at e ⊢
    refine toS_imp (fun b hb => ?_) e
    cases b with
    | false => exact hb
    | true =>
      simp only [if_true] at hb ⊢
      split at hb
      · exact whileN_le c g n m _ _ (by omega) hb
      · exact whileN_le c g n m _ _ (by omega) hb
      · exact hb
      · exact hb
open Classical in
noncomputable def sWhile (c : Ro → EM Bool) (g : Ro → Option Fl) : Ro → Option Fl := fun ρ => if h : ∃ n fl, whileN c g n ρ = some fl then whileN c g h.choose ρ else none
theorem sWhile_is {c : Ro → EM Bool} {g : Ro → Option Fl} {n : Nat} {ρ : Ro} {fl : Fl} (e : whileN c g n ρ = some fl) : sWhile c g ρ = some fl := by
  unfold sWhile
  have h : ∃ n fl, whileN c g n ρ = some fl := ⟨n, fl, e⟩
  rw [dif_pos h]
  obtain ⟨fl', e'⟩ := h.choose_spec
  rw [e']
  have a := whileN_le c g _ (max n h.choose) ρ fl (Nat.le_max_left _ _) e
  have b := whileN_le c g _ (max n h.choose) ρ fl' (Nat.le_max_right _ _) e'
  rw [a] at b
  exact b.symm
theorem sWhile_of {c : Ro → EM Bool} {g : Ro → Option Fl} {ρ : Ro} {fl : Fl} (e : sWhile c g ρ = some fl) : ∃ n, whileN c g n ρ = some fl := by
  unfold sWhile at e
  split at e
  · exact ⟨_, e⟩
  · cases e
theorem tts_step {K : PySem.W.Frag} {f : Ro → EM Bool} {g : Bool → Option Fl} {fl : Fl} {F H : Hp} {σ : L2.St} {ρ : Ro} {E : Ends} {Q : Bool → Hp → Prop} (S : SR K x.A x.T x.B x.F0 F H σ ρ) (e : toS ρ (f ρ) g = some fl) (w : WdS K x fl F E)
    (hk : ∀ d F' H', Grow F H F' H' → SR K x.A x.T x.B x.F0 F' H' σ ρ → g d = some fl → WdS K x fl F' E → Q d H') : tT K x f σ H Q := by
  unfold toS at e
  cases ef : f ρ with
  | none => rw [ef] at e; cases e
  | some q =>
    rw [ef] at e
    cases q with
    | error y =>
      cases (Option.some.inj e)
      exact ⟨F, ρ, .error y, S, ef, WdS.wx S w⟩
    | ok d => exact ⟨F, ρ, .ok d, S, ef, fun F' H' G => hk d F' H' G (S.grow G) e (w.mono G.f)⟩
theorem pks_while {c : Expr} {body : List Stmt} {fc : Ro → EM Bool} {g : Ro → Option Fl} (hp : PassesOwn (model X.prog X.w) X.A X.env X.xe) (hc : PT X c (tT X.K x fc)) (hb : PSs X body (tS X.K x g)) : PS X (.While c body [] pos) (tS X.K x (sWhile fc g)) := ps_wk (ps_while hp hc hb) fun E σ H ⟨F, ρ, fl, S, e, w⟩ => by
  obtain ⟨n0, e0⟩ := sWhile_of e
  refine ⟨fun m σ' H' => ∃ F2 ρ2, Ex F F2 ∧ SR X.K x.A x.T x.B x.F0 F2 H' σ' ρ2 ∧ whileN fc g m ρ2 = some fl, ⟨n0, F, ρ, .refl _, S, e0⟩, ?_⟩
  rintro m σ2 H2 ⟨F2, ρ2, ex, S2, e2⟩
  cases m with
  | zero => cases e2
  | succ m =>
    unfold whileN at e2
    refine tts_step S2 e2 (w.mono ex) fun b F3 H3 G3 S3 e3 w3 => ?_
    cases b with
    | false =>
      refine iteF ?_
      simp only [Bool.false_eq_true, if_false] at e3
      cases (Option.some.inj e3)
      exact w3 F3 H3 σ2 (.refl _) S3
    | true =>
      refine iteT ⟨fun σ' H' => ∃ F4 ρ4, Ex F F4 ∧ SR X.K x.A x.T x.B x.F0 F4 H' σ' ρ4 ∧ whileN fc g m ρ4 = some fl, fun σ' H' h => ⟨m, by omega, h⟩, ?_⟩
      simp only [if_true] at e3
      have ex3 := ex.trans G3.f
      cases eg : g ρ2 with
      | none => rw [eg] at e3; cases e3
      | some f4 =>
        rw [eg] at e3
        refine ⟨F3, ρ2, f4, S3, eg, ?_⟩
        cases f4 with
        | nx ρ4 => exact fun F5 H5 σ5 e5 S5 => ⟨F5, ρ4, ex3.trans e5, S5, e3⟩
        | ct ρ4 => exact fun F5 H5 σ5 e5 S5 => ⟨F5, ρ4, ex3.trans e5, S5, e3⟩
        | bk ρ4 =>
          cases (Option.some.inj e3)
          exact fun F5 H5 σ5 e5 S5 => w F5 H5 σ5 (ex3.trans e5) S5
        | rt d => cases (Option.some.inj e3); exact w
        | rto d => cases (Option.some.inj e3); exact w
        | ex y ρ4 => cases (Option.some.inj e3); exact WdS.mono (fl := .ex y ρ4) ex3 w
end
end Tw
/-! TwH: list comprehensions by data; methods of texts. -/
namespace Tw
open PySem PySem.Spec PyProof.Rows L2

def Fx.nox (x : Fx) : Fx := ⟨x.A, x.T, x.B, x.F0, fun _ _ _ _ => False⟩
def wipeE (ρ : Ro) : List Nat → Ro
  | [] => ρ
  | v :: vs => (wipeE ρ vs).set v .un
section
variable {K : PySem.W.Frag} {A : Ad} {T : Nat → V} {B F0 F H : Hp} {σ : L2.St} {ρ : Ro}
theorem SR.wipe (S : SR K A T B F0 F H σ ρ) : ∀ vs : List Nat, SR K A T B F0 F H (L2.wipe σ vs) (wipeE ρ vs)
  | [] => S
  | v :: vs => by
    unfold L2.wipe wipeE
    exact (SR.wipe S vs).dropV
/-- another new object changes -/
theorem SR.other (S : SR K A T B F0 F H σ ρ) {p : Addr} {o : HO} (hF : F p = none) (hB : B p = none) (hn : ∀ (j : Nat) es, ρ[j]? = some (.ow es) → σ[j]? ≠ some (some (.ref p))) : SR K A T B F0 F (upd H p o) σ ρ where
  fh := S.fh.mut hF
  bh := S.bh.mut hB
  f0 := S.f0
  nw := S.nw
  len := S.len
  fz := S.fz
  ow := fun i ds e => by
    obtain ⟨l, vs, h1, h2, h3, h4, h5⟩ := S.ow i ds e
    refine ⟨l, vs, h1, h2, h3, ?_, h5⟩
    rw [upd_ne]
    · exact h4
    · intro z
      subst z
      exact hn i ds e h1
  sep := S.sep
  tk := S.tk
theorem wipe_get : ∀ (vs : List Nat) (j : Nat), (L2.wipe σ vs)[j]? = if j ∈ vs ∧ j < σ.length then some none else σ[j]?
  | [], j => by simp [L2.wipe]
  | v :: vs, j => by
    unfold L2.wipe
    by_cases e : v = j
    · subst e
      by_cases hl : v < σ.length
      · rw [List.getElem?_set_self (by rw [wipe_length]; exact hl), if_pos ⟨List.mem_cons_self, hl⟩]
      · rw [List.getElem?_eq_none (by rw [List.length_set, wipe_length]; omega), if_neg (fun q => hl q.2), List.getElem?_eq_none (by omega)]
    · rw [List.getElem?_set_ne e, wipe_get vs j]
      have : j ∈ v :: vs ↔ j ∈ vs := by
        simp only [List.mem_cons]
        exact ⟨fun h => h.resolve_left (fun z => e z.symm), .inr⟩
      simp only [this]
/-- what a target may have stored is wiped -/
theorem wipe_back {σ2 : L2.St} {vs sl : List Nat} (hl : σ2.length = (L2.wipe σ vs).length) (h : ∀ j, j ∉ sl → σ2[j]? = (L2.wipe σ vs)[j]?) (hs : ∀ j ∈ sl, j ∈ vs) : L2.wipe σ2 vs = L2.wipe σ vs := by
  rw [wipe_length] at hl
  apply List.ext_getElem?
  intro j
  rw [wipe_get, wipe_get, hl]
  by_cases hj : j ∈ vs ∧ j < σ.length
  · rw [if_pos hj, if_pos hj]
  · rw [if_neg hj, if_neg hj]
    by_cases hm : j ∈ sl
    · have h1 : j ∈ vs := hs j hm
      have h2 : ¬ j < σ.length := fun q => hj ⟨h1, q⟩
      rw [List.getElem?_eq_none (by omega), List.getElem?_eq_none (by omega)]
    · rw [h j hm, wipe_get, if_neg hj]
end
/-- the items made, one by one -/
def lcD (t : Tg) (p : Ro → EM Bool) (f : Ro → EM D) (ρ : Ro) : List D → Option (List D)
  | [] => some []
  | d :: ds => match t d ρ with
    | none => none
    | some ρ1 => match p ρ1 with
      | some (.ok true) => match f ρ1 with
        | some (.ok y) => (lcD t p f ρ ds).map (y :: ·)
        | _ => none
      | some (.ok false) => lcD t p f ρ ds
      | _ => none
def eLc (vs : List Nat) (t : Tg) (fi : Ro → EM (List D)) (p : Ro → EM Bool) (f : Ro → EM D) : Ro → EM D := fun ρ => bnd (fi ρ) fun ds => match lcD t p f (wipeE ρ vs) ds with
  | some ys => if ys.length < sizeLine then ok (.lst ys) else none
  | none => none
def bYes : Ro → EM Bool := fun _ => ok true
section
variable {X : Cx} {x : Fx} {a b c e : Expr} {es : List Expr} {pos p : Pos} {f g : Ro → EM D} {fs : Ro → EM (List D)} {k : Kd}
theorem tie_step {fi : Ro → EM (List D)} {β : Type} {g : List D → EM β} {r : Except Xn β} {F H : Hp} {σ : L2.St} {ρ : Ro} {R : It → Hp → Prop} (S : SR X.K x.A x.T x.B x.F0 F H σ ρ) (e : bnd (fi ρ) g = some r) (hx : ∀ y, r = .error y → Wx X.K x F H σ y)
    (hk : ∀ ds F' H' J G', Grow F H F' H' → SR X.K x.A x.T x.B x.F0 F' H' σ ρ → Ex G' x.B → LstH G' → ItG X.K x.A J F' G' ds → g ds = some r → R J H') : tI X.K x fi σ H R := by
  cases ef : fi ρ with
  | none => rw [ef] at e; cases e
  | some q =>
    rw [ef] at e
    cases q with
    | error y =>
      have e' : (Except.error y : Except Xn β) = r := Option.some.inj e
      exact ⟨F, ρ, .error y, S, ef, hx y e'.symm⟩
    | ok d => exact ⟨F, ρ, .ok d, S, ef, fun F' H' J G' G eG lG hi => hk d F' H' J G' G (S.grow G) eG lG hi e⟩
theorem ptsd_nil : PTs X [] (tT X.K x bYes) := ⟨fun pins s σ H Q I ⟨F, ρ, r, S, e, w⟩ => by
  cases (Option.some.inj e)
  exact pts_nil.run pins s σ H Q I (w F H (.refl S.fh))⟩
theorem ptsd_one {q : Ro → EM Bool} (h : PT X c (tT X.K x q)) : PTs X [c] (tT X.K x q) := pts_one h
/-- THE READING of a comprehension -/
theorem lc_rd {K : PySem.W.Frag} {fi : Ro → EM (List D)} {q : Ro → EM Bool} {t : Tg} {sl vs : List Nat} (hK : X.K = K) (hk : k ≠ .bw) (hs : ∀ j ∈ sl, j ∈ vs) {σ : L2.St} {H : Hp} {Q : VK} (h : tK X.K x k (eLc vs t fi q f) σ H Q) :
    tLc (tI X.K x fi) (tG X.K x.nox sl t) (tT X.K x.nox q) (tK X.K x.nox .fz f) vs σ H Q := by
  obtain ⟨F, ρ, r, S, e, w⟩ := h
  refine tie_step S e w.x fun ds F1 H1 J Gq G1 S1 eG lG hi e1 => ?_
  intro Dl hD
  split at e1
  · rename_i ys hy
    split at e1
    · rename_i hz
      cases (Option.some.inj e1)
      have D1 : F1 Dl = none := S1.fh.free hD
      have DB : x.B Dl = none := S1.bh.free hD
      have hn : ∀ (j : Nat) es, ρ[j]? = some (.ow es) → σ[j]? ≠ some (some (.ref Dl)) := fun j es hj z => by
        obtain ⟨l, vs', q1, _, _, q4, _⟩ := S1.ow j es hj
        rw [q1] at z
        cases z
        rw [hD] at q4
        cases q4
      refine ⟨fun i m H2 => m = ds.length - i ∧ ∃ F2 acc accd rest, Grow F1 H1 F2 H2 ∧ SR X.K x.A x.T x.B x.F0 F2 H2 σ ρ ∧ F2 Dl = none ∧ H2 Dl = some (.lst acc) ∧ RepL X.K x.A F2 acc accd ∧ lcD t q f (wipeE ρ vs) (ds.drop i) = some rest ∧ ys = accd ++ rest,
        ⟨ds.length, rfl, F1, [], [], ys, Grow.raw S1.fh hD, S1.other D1 DB hn, D1, upd_same, .nil, hy, rfl⟩, ?_⟩
      rintro i m H2 ⟨rfl, F2, acc, accd, rest, G2, S2, D2, hl, ra, hr, ey⟩
      cases ed : ds[i]? with
      | none =>
        have hlen : ds.length ≤ i := List.getElem?_eq_none_iff.mp ed
        rw [List.drop_eq_nil_of_le hlen] at hr
        cases (Option.some.inj hr)
        rw [List.append_nil] at ey
        subst ey
        refine .inl ⟨hi.stop i H2 (G2.f.trans G2.i) (eG.trans S2.bh) hlen, ?_⟩
        have wo : Wd X.K x .ow (.ok (.lst ys)) F H σ Q := by
          cases k with
          | ow => exact w
          | bw => exact absurd rfl hk
          | fz =>
            intro F' H' v G r
            obtain ⟨l, vs', ds', e1', e2', e0', e5', e3', e4'⟩ := r
            subst e1'
            cases e2'
            have ex' : Ex F' (upd F' l (.lst vs')) := .new e5'
            refine w (upd F' l (.lst vs')) H' (.ref l) ⟨G.f.trans ex', G.h, fun c o hc => ?_, fun c o hc => ?_⟩ (Rep.lst upd_same (e4'.mono ex'))
            · by_cases q : c = l
              · subst q; rw [upd_same] at hc; rw [← hc]; exact e3'
              · rw [upd_ne q] at hc; exact G.i c o hc
            · rw [upd_ne (ne_of_none hc e0')]
              exact G.n c o hc
        exact wo F2 H2 (.ref Dl) (G1.trans G2) ⟨Dl, acc, ys, rfl, rfl, G1.h.free hD, D2, hl, ra⟩
      | some d =>
        have hlt : i < ds.length := (List.getElem?_eq_some_iff.mp ed).1
        have hd : ds.drop i = d :: ds.drop (i + 1) := by
          rw [List.drop_eq_getElem_cons hlt, (List.getElem?_eq_some_iff.mp ed).2]
        rw [hd] at hr
        refine .inr ⟨hi.go i d H2 (G2.f.trans G2.i) (eG.trans S2.bh) ed, fun H3 => ∃ F3 acc accd rest, Grow F1 H1 F3 H3 ∧ SR X.K x.A x.T x.B x.F0 F3 H3 σ ρ ∧ F3 Dl = none ∧ H3 Dl = some (.lst acc) ∧ RepL X.K x.A F3 acc accd ∧ lcD t q f (wipeE ρ vs) (ds.drop (i + 1)) = some rest ∧ ys = accd ++ rest,
          fun H' n => ⟨ds.length - (i + 1), by omega, rfl, n⟩, fun v H3 hyl => ?_⟩
        obtain ⟨F3, G3, rv⟩ := hi.yld i d F2 H2 v H3 G2.f S2.fh (eG.trans S2.bh) ed hyl
        have S3 := S2.grow G3
        have D3 : F3 Dl = none := (G3.n Dl _ hl).trans D2
        have hl3 := G3.h _ _ hl
        have ra3 := ra.mono G3.f
        unfold lcD at hr
        cases et : t d (wipeE ρ vs) with
        | none => rw [et] at hr; cases hr
        | some ρ1 =>
          rw [et] at hr
          dsimp only at hr
          refine ⟨F3, _, d, ρ1, S3.wipe vs, rv, et, fun σ4 S4 l4 k4 => ⟨wipe_back l4 k4 hs, ?_⟩⟩
          cases eq : q ρ1 with
          | none => rw [eq] at hr; cases hr
          | some bq =>
            rw [eq] at hr
            cases bq with
            | error y => cases hr
            | ok b =>
              refine ⟨F3, ρ1, .ok b, S4, eq, fun F5 H5 G5 => ?_⟩
              have S5 := S4.grow G5
              have D5 : F5 Dl = none := (G5.n Dl _ hl3).trans D3
              have hl5 := G5.h _ _ hl3
              have ra5 := ra3.mono G5.f
              have G15 : Grow F1 H1 F5 H5 := (G2.trans G3).trans G5
              have SS5 := S3.grow G5
              cases b with
              | false =>
                refine iteF ⟨F5, acc, accd, rest, G15, SS5, D5, hl5, ra5, hr, ey⟩
              | true =>
                refine iteT ?_
                dsimp only at hr
                cases ef : f ρ1 with
                | none => rw [ef] at hr; cases hr
                | some rf =>
                  rw [ef] at hr
                  cases rf with
                  | error y => cases hr
                  | ok y =>
                    refine ⟨F5, ρ1, .ok y, S5, ef, fun F6 H6 u G6 ru => ?_⟩
                    have ru' : Rep X.K x.A F6 u y := ru
                    have D6 : F6 Dl = none := (G6.n Dl _ hl5).trans D5
                    have hl6 := G6.h _ _ hl5
                    have ra6 := ra5.mono G6.f
                    have G16 : Grow F1 H1 F6 H6 := G15.trans G6
                    have SS6 := SS5.grow G6
                    dsimp only at hr
                    cases er : lcD t q f (wipeE ρ vs) (ds.drop (i + 1)) with
                    | none => rw [er] at hr; cases hr
                    | some rest' =>
                      rw [er] at hr
                      cases (Option.some.inj hr)
                      refine ⟨acc, hl6, ?_, F6, acc ++ [u], accd ++ [y], rest', ⟨G16.f, fun c o hc => ?_, G16.i.mut D6, G16.n⟩, SS6.other D6 DB hn, D6, upd_same, ra6.app (.one ru'), by first | rfl | exact er, by rw [ey, List.append_assoc]; rfl⟩
                      · rw [ra6.length]
                        have : accd.length < ys.length := by rw [ey, List.length_append]; simp
                        omega
                      · rw [upd_ne (ne_of_none hc hD)]
                        exact G16.h c o hc
    · cases e1
  · cases e1
/-- as a value -/
theorem pk_lc {fi : Ro → EM (List D)} {q : Ro → EM Bool} {t : Tg} {sl vs : List Nat} (hk : k ≠ .bw) (hs : ∀ j ∈ sl, j ∈ vs) (h : PE X e (tLc (tI X.K x fi) (tG X.K x.nox sl t) (tT X.K x.nox q) (tK X.K x.nox .fz f) vs)) : PE X e (tK X.K x k (eLc vs t fi q f)) :=
  pe_wk h fun σ H Q q => lc_rd rfl hk hs q
/-- name = [..] -/
theorem pks_setLc {i : Nat} {st : Stmt} {fi : Ro → EM (List D)} {q : Ro → EM Bool} {t : Tg} {sl vs : List Nat} (hs : ∀ j ∈ sl, j ∈ vs) (h : PS X st (tAsg (tLc (tI X.K x fi) (tG X.K x.nox sl t) (tT X.K x.nox q) (tK X.K x.nox .fz f) vs) (gName i))) : PS X st (tS X.K x (sSet i (eLc vs t fi q f))) :=
  ps_wk h fun E σ H q => lc_rd (k := .fz) rfl (by decide) hs (tsAsg (i := i) q)
theorem pks_setLcO {i : Nat} {st : Stmt} {fi : Ro → EM (List D)} {q : Ro → EM Bool} {t : Tg} {sl vs : List Nat} (hs : ∀ j ∈ sl, j ∈ vs) (h : PS X st (tAsg (tLc (tI X.K x fi) (tG X.K x.nox sl t) (tT X.K x.nox q) (tK X.K x.nox .fz f) vs) (gName i))) : PS X st (tS X.K x (sSetO i (eLc vs t fi q f))) :=
  ps_wk h fun E σ H q => lc_rd (k := .ow) rfl (by decide) hs (tsAsgO (i := i) q)

/-! ### methods of texts -/
theorem mb_str1 {c : Str → Str → Bool} {fn : Str → Str → V} {gn : Str → Str → D} {rr : V → List V → Hp → VK → Prop} (hr : ∀ (a b : Str) H Q, c a b = true → Q (fn a b) H → rr (.str a) [.str b] H Q) (hrep : ∀ K A F a b, Rep K A F (fn a b) (gn a b)) : Mb X.K x .fz rr (dStr1 c gn) := fun F H σ z vs ds q Q ex rv hq w => by
  unfold dStr1 at hq
  split at hq
  · rename_i a' b' ea
    cases ea
    split at hq
    · rename_i hc
      cases (Option.some.inj hq)
      obtain ⟨v, rfl, r1⟩ := rkl1 rv
      rw [rk_str r1]
      exact hr _ _ _ _ hc (w.val ex (hrep _ _ _ _ _) (by decide))
    · cases hq
  · cases hq
variable {apos : Pos} {o : Expr}
theorem pk_strip (ho : PE X o (tK X.K x .bw g)) (ha : PA X [e] (tA X.K x .bw fs)) (hbase : attributeBase o "strip" X.env (eval o X.env) = eval o X.env := by rfl) (hline : (apos.endLine == pos.line) = true := by rfl) (hs : starEach [e] X.env = (false, eval e X.env) :: starEach [] X.env := by rfl)
    (hfew : ((backTo pos (starEach [e] X.env)).all (fun x => !x.1) && (backToKw pos (keywordEach [] X.env)).all (fun x => x.1.isSome) && decide ([e].length + ([] : List Keyword).length + (if ([] : List Keyword).isEmpty then 0 else 1) < 30)) = true := by rfl) : PE X (.Call (.Attribute o "strip" apos) [e] [] pos) (tK X.K x .fz (eMt dStrip g fs)) :=
  pk_mt PySem.F.slot_str_strip PySem.F.type_str_strip mt_stripChars (mb_str1 (fn := fun a b => .str (PySem.Txt.stripChars a b)) (fun a b H Q hc q => ⟨a, b, rfl, rfl, of_decide_eq_true hc, q⟩) fun _ _ _ _ _ => .str _) nx_str1 ho ha hbase hfew hline hs
theorem pk_rstrip (ho : PE X o (tK X.K x .bw g)) (ha : PA X [e] (tA X.K x .bw fs)) (hbase : attributeBase o "rstrip" X.env (eval o X.env) = eval o X.env := by rfl) (hline : (apos.endLine == pos.line) = true := by rfl) (hs : starEach [e] X.env = (false, eval e X.env) :: starEach [] X.env := by rfl)
    (hfew : ((backTo pos (starEach [e] X.env)).all (fun x => !x.1) && (backToKw pos (keywordEach [] X.env)).all (fun x => x.1.isSome) && decide ([e].length + ([] : List Keyword).length + (if ([] : List Keyword).isEmpty then 0 else 1) < 30)) = true := by rfl) : PE X (.Call (.Attribute o "rstrip" apos) [e] [] pos) (tK X.K x .fz (eMt dRstrip g fs)) :=
  pk_mt PySem.F.slot_str_rstrip PySem.F.type_str_rstrip mt_rstripChars (mb_str1 (fn := fun a b => .str (PySem.Txt.rstripChars a b)) (fun a b H Q hc q => ⟨a, b, rfl, rfl, of_decide_eq_true hc, q⟩) fun _ _ _ _ _ => .str _) nx_str1 ho ha hbase hfew hline hs
theorem pk_starts (ho : PE X o (tK X.K x .bw g)) (ha : PA X [e] (tA X.K x .bw fs)) (hbase : attributeBase o "startswith" X.env (eval o X.env) = eval o X.env := by rfl) (hline : (apos.endLine == pos.line) = true := by rfl) (hs : starEach [e] X.env = (false, eval e X.env) :: starEach [] X.env := by rfl)
    (hfew : ((backTo pos (starEach [e] X.env)).all (fun x => !x.1) && (backToKw pos (keywordEach [] X.env)).all (fun x => x.1.isSome) && decide ([e].length + ([] : List Keyword).length + (if ([] : List Keyword).isEmpty then 0 else 1) < 30)) = true := by rfl) : PE X (.Call (.Attribute o "startswith" apos) [e] [] pos) (tK X.K x .fz (eMt dStarts g fs)) :=
  pk_mt PySem.F.slot_str_startswith PySem.F.type_str_startswith mt_startswith (mb_str1 (fn := fun a b => .bl (PySem.Txt.startswith a b)) (fun a b H Q hc q => ⟨a, b, rfl, rfl, q⟩) fun _ _ _ _ _ => .bl _) nx_str1 ho ha hbase hfew hline hs
end
end Tw
/-! TwI: what the generator's lines name: callees, classes, globals, sums of rules. -/
namespace Tw
open PySem PySem.Spec PyProof.Rows L2
/-- a def that is called by its name -/
structure Cal (P : Program) (w : World) (K : PySem.W.Frag) (mg : Str → Option Value) (base : Heap) (A : Ad) (k : Nat) (nm : Str) (na : Nat) (m : List D → Option Out) (dds : List D) : Prop where
  ex : ∃ f fd ps ds dvs k', k' ≤ k ∧ FnOk P w K mg base (L2N.CX P w) k' f fd ps (spD K A na m) ∧ mg nm = some (.ref f) ∧ PySem.W.keepIn K (.ref f) = true ∧ Binds K fd ps ds ∧ Vals dvs ds ∧ ∀ F, RepL K A F dvs dds
/-- a class that is called by its name -/
structure Mak (P : Program) (w : World) (K : PySem.W.Frag) (mg : Str → Option Value) (base : Heap) (A : Ad) (k : Nat) (nm : Str) (na : Nat) (c : Cl) (mi : List D → EM (List D)) (dds : List D) : Prop where
  ex : ∃ f fd ps ds dvs k', k' + 1 ≤ k ∧ A.has c = true ∧ Mk K (A.cl c) f ∧ FnOk P w K mg base (L2N.CX P w) k' f fd ps (spI K A (A.cl c) c.names na mi) ∧ mg nm = some (.ref (A.cl c)) ∧ Binds K fd ps ds ∧ Vals dvs ds ∧ ∀ F, RepL K A F dvs dds
/-- an own error class, raised with a text -/
structure Xcl (K : PySem.W.Frag) (mg : Str → Option Value) (A : Ad) (nm : Str) (c : Xc) : Prop where
  g : mg nm = some (.ref (A.xc c))
  x : PySem.W.excIn K (A.xc c) [.type "ValueError", .type "Exception", .type "BaseException", .type "object"] "ValueError.__new__" = true
  k : PySem.W.keepIn K (.ref (A.xc c)) = true
  s : PySem.W.subIn K (.ref (A.xc c)) (.type "BaseException") = some true
  t : PySem.W.typeIn K (.ref (A.xc c)) = some (.type "type")
section
variable {X : Cx} {x : Fx} {a b c e : Expr} {es : List Expr} {pos p : Pos} {f g : Ro → EM D} {fs : Ro → EM (List D)} {k : Kd} {n : Str} {na kk : Nat} {m : List D → Option Out} {dds : List D}
theorem pk_f (C : Cal X.prog X.w X.K X.mg X.base x.A kk n na m dds) (tk : L2N.Takes X x.W) (hr : Room kk X.A) (ha : PA X (e :: es) (tA X.K x .fz fs)) (hg : Gl X n := by rfl) (hdb : (n == ("__debug__" : Str)) = false := by decide) (he : starEach (e :: es) X.env = (false, eval e X.env) :: starEach es X.env := by rfl) (hpl : (backTo pos (starEach es X.env)).any (·.1) = false := by rfl) :
    PE X (.Call (.Name n p) (e :: es) [] pos) (tK X.K x .fz (eCall (dDef na dds (dCall m)) fs)) := by
  obtain ⟨f, fd, ps, ds, dvs, k', hk, Fn, hm, hkp, hb, hd, hdd⟩ := C.ex
  exact pk_call tk Fn (hr.mono hk) hm hkp hb hd hdd hg ha hdb he hpl
theorem pk_fO (C : Cal X.prog X.w X.K X.mg X.base x.A kk n na m dds) (tk : L2N.Takes X x.W) (hr : Room kk X.A) (ha : PA X (e :: es) (tA X.K x .fz fs)) (hg : Gl X n := by rfl) (hdb : (n == ("__debug__" : Str)) = false := by decide) (he : starEach (e :: es) X.env = (false, eval e X.env) :: starEach es X.env := by rfl) (hpl : (backTo pos (starEach es X.env)).any (·.1) = false := by rfl) :
    PE X (.Call (.Name n p) (e :: es) [] pos) (tK X.K x .ow (eCall (dDef na dds (dCallO m)) fs)) := by
  obtain ⟨f, fd, ps, ds, dvs, k', hk, Fn, hm, hkp, hb, hd, hdd⟩ := C.ex
  exact pk_callO tk Fn (hr.mono hk) hm hkp hb hd hdd hg ha hdb he hpl
theorem pk_mk {cl : Cl} {mi : List D → EM (List D)} (C : Mak X.prog X.w X.K X.mg X.base x.A kk n na cl mi dds) (tk : L2N.Takes X x.W) (hr : Room kk X.A) (ha : PA X (e :: es) (tA X.K x .fz fs)) (hg : Gl X n := by rfl) (hdb : (n == ("__debug__" : Str)) = false := by decide) (he : starEach (e :: es) X.env = (false, eval e X.env) :: starEach es X.env := by rfl) (hpl : (backTo pos (starEach es X.env)).any (·.1) = false := by rfl) :
    PE X (.Call (.Name n p) (e :: es) [] pos) (tK X.K x .fz (eCall (dDef na dds (dMake mi cl)) fs)) := by
  obtain ⟨f, fd, ps, ds, dvs, k', hk, hc, hM, Fn, hm, hb, hd, hdd⟩ := C.ex
  exact pk_make tk hc hM Fn (hr.mono hk) hm hb hd hdd hg ha hdb he hpl
/-- a module's constant -/
theorem pk_gl {v : V} {d : D} (h : ∃ u, X.mg n = some u ∧ RelV v u) (r : ∀ F, Rep X.K x.A F v d) (hg : Gl X n := by rfl) (hdb : (n == ("__debug__" : Str)) = false := by decide) : PE X (.Name n p) (tK X.K x .fz (eC d)) := by
  obtain ⟨u, hm, rl⟩ := h
  exact pk_c (pe_glob hg hm rl hdb) r
def sRaise (e : Xn) : Ro → Option Fl := fun ρ => some (.ex e ρ)
/-- raise X('..') -/
theorem pks_raise {y : Xn} {z : Str} {j : Nat} {p1 p2 p3 : Pos} (hc : X.calm = true) (tk : L2N.Takes X x.W) (C : Xcl X.K X.mg x.A n y.cl) (hy : ∀ H, XR H y none) (hg : Gl X n := by rfl) (hdb : (n == ("__debug__" : Str)) = false := by decide) :
    PS X (.Raise (some (.Call (.Name n p) [.Constant (.str z) j p1] [] p2)) none p3) (tS X.K x (sRaise y)) :=
  ps_wk (L2N.ps_raise hc tk (L2N.pmk_own PySem.F.excBase_ValueError C.x C.g C.k (raises_own C.s C.t) hg hdb)) fun E σ H ⟨F, ρ, fl, S, e, w⟩ => by
    cases (Option.some.inj e)
    exact w F H σ (.refl _) S none (hy H)

/-! ### sums of rules -/
/-- + of ints, texts, lists, tuples -/
def dAddU (d e : D) : EM D := match d, e with
  | .lst xs, .lst ys => dCat (.lst xs) (.lst ys)
  | d, e => dAdd d e
theorem pk_addU (ha : PE X a (tK X.K x .bw f)) (hb : PE X b (tK X.K x .bw g)) : PE X (.BinOp a .Add b pos) (tK X.K x .fz (eOp dAddU f g)) :=
  pk_op (op_cat.or (op_add.or (op_add_str.or op_catA))) (fun F H σ v u d e q Q ex rv ru hq w => by
    unfold dAddU at hq
    split at hq
    · exact .inl (op2_cat F H σ v u _ _ q Q ex rv ru hq w)
    · exact .inr (op2_add F H σ v u _ _ q Q ex rv ru hq w)) (fun d e y q => by
    unfold dAddU at q
    split at q
    · exact nox_cat _ _ _ q
    · exact nox_add _ _ _ q) ha hb
/-- * of ints, a list and an int -/
def dMulU (d e : D) : EM D := match d with
  | .lst xs => dRep (.lst xs) e
  | d => dMul d e
theorem pk_mulU (ha : PE X a (tK X.K x .bw f)) (hb : PE X b (tK X.K x .bw g)) : PE X (.BinOp a .Mult b pos) (tK X.K x .fz (eOp dMulU f g)) :=
  pk_op (op_rep.or op_mul) (fun F H σ v u d e q Q ex rv ru hq w => by
    unfold dMulU at hq
    split at hq
    · exact .inl (op2_rep F H σ v u _ _ q Q ex rv ru hq w)
    · exact .inr (op2_I (fun i j h => by
        unfold cMul at h
        simp only [Bool.or_eq_true, Bool.and_eq_true, decide_eq_true_eq] at h
        exact h) F H σ v u _ _ q Q ex rv ru hq w)) (fun d e y q => by
    unfold dMulU at q
    split at q
    · exact nox_rep _ _ _ q
    · exact nox_I _ _ _ q) ha hb
/-- a slice of a list or of a tuple -/
def dSlU (d : D) (lo hi : Option Int) : EM D := match d with
  | .tup xs => dSlT (.tup xs) lo hi
  | d => dSlL d lo hi
theorem pk_slU {lo hi : Option Expr} {p2 : Pos} {fl fh : Ro → EM (Option Int)} (ha : PE X a (tK X.K x .bw f)) (hl : PO X lo (tP X.K x fl)) (hh : PO X hi (tP X.K x fh)) : PE X (.Subscript a (.Slice lo hi none p2) pos) (tK X.K x .fz (eSl dSlU f fl fh)) := by
  have h1 : PE X (.Subscript a (.Slice lo hi none p2) pos) (tK X.K x .fz (eSl dSlL f fl fh)) := pk_slL ha hl hh
  have h2 : PE X (.Subscript a (.Slice lo hi none p2) pos) (tK X.K x .fz (eSl dSlT f fl fh)) := pk_slT ha hl hh
  have h3 : PE X (.Subscript a (.Slice lo hi none p2) pos) (fun σ H R => tK X.K x .fz (eSl dSlL f fl fh) σ H R ∨ tK X.K x .fz (eSl dSlT f fl fh) σ H R) := ⟨fun pins s σ H R I q => q.elim (h1.run pins s σ H R I) (h2.run pins s σ H R I)⟩
  refine pe_wk h3 fun σ H Q ⟨F, ρ, r, S, e, w⟩ => ?_
  have key : eSl dSlL f fl fh ρ = some r ∨ eSl dSlT f fl fh ρ = some r := by
    unfold eSl at e ⊢
    cases ef : f ρ with
    | none => rw [ef] at e; cases e
    | some q =>
      rw [ef] at e
      cases q with
      | error y => exact .inl e
      | ok d =>
        cases d with
        | tup xs => exact .inr e
        | lst xs => exact .inl e
        | scr xs => exact .inl e
        | non => exact .inl e
        | bl b => exact .inl e
        | int b => exact .inl e
        | str b => exact .inl e
        | obj b c => exact .inl e
        | ord b => exact .inl e
  exact key.elim (fun k => .inl ⟨F, ρ, r, S, k, w⟩) fun k => .inr ⟨F, ρ, r, S, k, w⟩
end
end Tw
/-! TwJ: __init__: an object that is being made, its attributes one by one. -/
namespace Tw
open PySem PySem.Spec PyProof.Rows L2
abbrev Fs := List (Str × D)
def RepF (K : PySem.W.Frag) (A : Ad) (F : Hp) (fvs : List (Str × V)) (fs : Fs) : Prop := fvs.map (·.1) = fs.map (·.1) ∧ RepL K A F (fvs.map (·.2)) (fs.map (·.2))
/-- the new object's place, its class, its dict -/
structure Ix where
  A : Ad
  B : Hp
  F0 : Hp
  W : WX
  C : Addr
  p : Addr
  dx : Addr
  /-- a list that is lent -/
  q : Addr
def Ix.T (y : Ix) : Nat → V := fun n => if n = 2 then .ref y.q else .ref y.p
/-- what stood stands, but for the new object -/
def BOk (y : Ix) (B' : Hp) : Prop := ∀ a o, a ≠ y.p → y.B a = some o → B' a = some o
theorem bok_upd {y : Ix} {u : HO} : BOk y (upd y.B y.p u) := fun a o ha hb => by rw [upd_ne ha]; exact hb
def Ix.fx (y : Ix) (B' : Hp) : Fx := ⟨y.A, y.T, B', y.F0, y.W⟩
structure SI (K : PySem.W.Frag) (y : Ix) (F H : Hp) (σ : L2.St) (ρ : Ro) (fs : Fs) : Prop where
  ex : ∃ fvs, RepF K y.A F fvs fs ∧ H y.p = some (.ins y.C y.dx fvs) ∧ SR K y.A y.T (upd y.B y.p (.ins y.C y.dx fvs)) y.F0 F H σ ρ
  fp : F y.p = none
inductive IFl where
  | nx (ρ : Ro) (fs : Fs) | ex (e : Xn)
def WdIS (K : PySem.W.Frag) (y : Ix) (fl : IFl) (F : Hp) (E : Ends) : Prop := match fl with
  | .nx ρ fs => ∀ F' H' σ', Ex F F' → SI K y F' H' σ' ρ fs → E.nx σ' H'
  | .ex e => ∀ F' H' σ' dd, GrowP y.p y.F0 y.B F' H' → XR H' e dd → y.W (.ref (y.A.xc e.cl)) dd σ' H'
def tIS (K : PySem.W.Frag) (y : Ix) (g : Ro → Fs → Option IFl) : TS := fun E σ H => ∃ F ρ fs fl, SI K y F H σ ρ fs ∧ g ρ fs = some fl ∧ WdIS K y fl F E
/-- at the end -/
def WdIF (K : PySem.W.Frag) (y : Ix) (fl : IFl) (F : Hp) (E : Ends) : Prop := match fl with
  | .nx ρ fs => ∀ F' H' σ' fvs, GrowP y.p y.F0 y.B F' H' → H' y.p = some (.ins y.C y.dx fvs) → RepF K y.A F' fvs fs → E.nx σ' H'
  | .ex e => ∀ F' H' σ' dd, GrowP y.p y.F0 y.B F' H' → XR H' e dd → y.W (.ref (y.A.xc e.cl)) dd σ' H'
def tIF (K : PySem.W.Frag) (y : Ix) (g : Ro → Fs → Option IFl) : TS := fun E σ H => ∃ F ρ fs fl, SI K y F H σ ρ fs ∧ g ρ fs = some fl ∧ WdIF K y fl F E
theorem WdIS.mono {K : PySem.W.Frag} {y : Ix} {fl : IFl} {F F' : Hp} {E : Ends} (e : Ex F F') (w : WdIS K y fl F E) : WdIS K y fl F' E := by
  cases fl with
  | nx ρ fs => exact fun F2 H2 σ2 e2 S => w F2 H2 σ2 (e.trans e2) S
  | ex x => exact w
theorem SI.grow {K : PySem.W.Frag} {y : Ix} {F H : Hp} {σ : L2.St} {ρ : Ro} {fs : Fs} (S : SI K y F H σ ρ fs) : GrowP y.p y.F0 y.B F H := by
  obtain ⟨fvs, _, _, S'⟩ := S.ex
  refine ⟨S'.f0, fun a o ha hb => S'.bh a o (by rw [upd_ne ha]; exact hb), S'.fh, S.fp, fun a o ha hb => S'.nw a o (by rw [upd_ne ha]; exact hb)⟩
def iSeq (g1 g2 : Ro → Fs → Option IFl) : Ro → Fs → Option IFl := fun ρ fs => match g1 ρ fs with
  | some (.nx ρ' fs') => g2 ρ' fs'
  | o => o
theorem putF_new {f : Str} {v : V} : ∀ {fvs : List (Str × V)}, f ∉ fvs.map (·.1) → putF f v fvs = fvs ++ [(f, v)]
  | [], _ => rfl
  | (g, u) :: r, h => by
    have h1 : ¬ g = f := fun q => h (by simp [q])
    have h2 : f ∉ r.map (·.1) := fun q => h (by simp [q])
    show (if g = f then (g, v) :: r else (g, u) :: putF f v r) = _
    rw [if_neg h1, putF_new h2]
    rfl
section
variable {X : Cx} {y : Ix} {st : Stmt} {rest : List Stmt} {g1 g2 : Ro → Fs → Option IFl} {g : Ro → Option Fl}
theorem ps_any {ι : Type} {t : ι → TS} (h : ∀ i, PS X st (t i)) : PS X st (fun E σ H => ∃ i, t i E σ H) := ⟨fun pins s σ H E I ⟨i, q⟩ => (h i).run pins s σ H E I q⟩
theorem pss_any {ι : Type} {sts : List Stmt} {t : ι → TS} (h : ∀ i, PSs X sts (t i)) : PSs X sts (fun E σ H => ∃ i, t i E σ H) := ⟨fun pins s σ H E I ⟨i, q⟩ => (h i).run pins s σ H E I q⟩
theorem pis_cons (h1 : PS X st (tIS X.K y g1)) (h2 : PSs X rest (tIF X.K y g2)) : PSs X (st :: rest) (tIF X.K y (iSeq g1 g2)) :=
  pss_wk (pss_cons h1 h2) fun E σ H ⟨F, ρ, fs, fl, S, e, w⟩ => by
    unfold iSeq at e
    cases eg : g1 ρ fs with
    | none => rw [eg] at e; cases e
    | some f1 =>
      rw [eg] at e
      cases f1 with
      | nx ρ' fs' => exact ⟨F, ρ, fs, .nx ρ' fs', S, eg, fun F' H' σ' G S' => ⟨F', ρ', fs', fl, S', e, by
          cases fl with
          | nx ρ fs => exact w
          | ex x => exact w⟩⟩
      | ex x => cases (Option.some.inj e); exact ⟨F, ρ, fs, _, S, eg, w⟩
def iNil : Ro → Fs → Option IFl := fun ρ fs => some (.nx ρ fs)
theorem pis_nil : PSs X [] (tIF X.K y iNil) := pss_wk pss_nil fun E σ H ⟨F, ρ, fs, fl, S, e, w⟩ => by
  cases (Option.some.inj e)
  obtain ⟨fvs, r, hp, _⟩ := S.ex
  exact w F H σ fvs S.grow hp r
/-- a statement that leaves the object alone -/
def iS (g : Ro → Option Fl) : Ro → Fs → Option IFl := fun ρ fs => match g ρ with
  | some (.nx ρ') => some (.nx ρ' fs)
  | some (.ex e _) => some (.ex e)
  | _ => none
theorem si_of {F F' H H' : Hp} {σ σ' : L2.St} {ρ ρ' : Ro} {fs : Fs} {fvs : List (Str × V)} (h0 : y.F0 y.p = none) (r : RepF X.K y.A F fvs fs) (e : Ex F F') (S : SR X.K y.A y.T (upd y.B y.p (.ins y.C y.dx fvs)) y.F0 F' H' σ' ρ') : SI X.K y F' H' σ' ρ' fs :=
  ⟨⟨fvs, ⟨r.1, r.2.mono e⟩, S.bh _ _ upd_same, S⟩, (S.nw _ _ upd_same).trans h0⟩
theorem pis_S (h0 : y.F0 y.p = none) (h : ∀ B', BOk y B' → PS X st (tS X.K (y.fx B') g)) : PS X st (tIS X.K y (iS g)) := ps_wk (ps_any fun (i : { B' : Hp // BOk y B' }) => h i.1 i.2) fun E σ H ⟨F, ρ, fs, fl, S, e, w⟩ => by
  obtain ⟨fvs, r, hp, S'⟩ := S.ex
  unfold iS at e
  cases eg : g ρ with
  | none => rw [eg] at e; cases e
  | some f1 =>
    rw [eg] at e
    refine ⟨⟨upd y.B y.p (.ins y.C y.dx fvs), bok_upd⟩, F, ρ, f1, S', eg, ?_⟩
    cases f1 with
    | nx ρ' =>
      cases (Option.some.inj e)
      exact fun F' H' σ' G S2 => w F' H' σ' G (si_of (X := X) (H := H') (σ := σ') (ρ := ρ') h0 r G S2)
    | ex x ρ' =>
      cases (Option.some.inj e)
      exact fun F' H' σ' G S2 dd q => w F' H' σ' dd (si_of (X := X) (fs := fs) (H := H') (σ := σ') (ρ := ρ') h0 r G S2).grow q
    | rt d => cases e
    | rto d => cases e
    | bk d => cases e
    | ct d => cases e
/-- slot 0 holds the new object -/
def isTk : Option Ent → Bool
  | some (.tk _) => true
  | _ => false
theorem isTk_ex {o : Option Ent} (h : isTk o = true) : ∃ n, o = some (.tk n) := by
  unfold isTk at h
  split at h
  · exact ⟨_, rfl⟩
  · cases h
def isT0 : Option Ent → Bool
  | some (.tk 0) => true
  | _ => false
theorem isT0_eq {o : Option Ent} (h : isT0 o = true) : o = some (.tk 0) := by
  unfold isT0 at h
  split at h
  · rfl
  · cases h
/-- self.f = e -/
def iSto (f : Str) (fe : Ro → EM D) : Ro → Fs → Option IFl := fun ρ fs => match fe ρ with
  | some (.ok d) => if isT0 ρ[0]? = true ∧ f ∉ fs.map (·.1) ∧ fs.length < 1000 then some (.nx ρ (fs ++ [(f, d)])) else none
  | some (.error e) => some (.ex e)
  | none => none
theorem pis_sto {f : Str} {a : Expr} {fe : Ro → EM D} (h0 : y.F0 y.p = none) (hst : ∀ tv, PE X a tv → PS X st (sFld X.K (tVar 0) tv f)) (he : ∀ B', BOk y B' → PE X a (tK X.K (y.fx B') .fz fe)) (cl : Cls X.K y.C) (no : NoAttr X.K y.C f) : PS X st (tIS X.K y (iSto f fe)) :=
  ps_wk (ps_any fun (i : { B' : Hp // BOk y B' }) => hst _ (he i.1 i.2)) fun E σ H ⟨F, ρ, fs, fl, S, e, w⟩ => by
    obtain ⟨fvs, r, hp, S'⟩ := S.ex
    refine ⟨⟨upd y.B y.p (.ins y.C y.dx fvs), bok_upd⟩, ?_⟩
    unfold iSto at e
    cases ef : fe ρ with
    | none => rw [ef] at e; cases e
    | some q =>
      rw [ef] at e
      cases q with
      | error x =>
        cases (Option.some.inj e)
        exact ⟨F, ρ, .error x, S', ef, fun F' H' dd G q => w F' H' σ dd (si_of (X := X) (fs := fs) (H := H') (σ := σ) (ρ := ρ) h0 r G.f (S'.grow G)).grow q⟩
      | ok d =>
        dsimp only at e
        by_cases hc : isT0 ρ[0]? = true ∧ f ∉ fs.map (·.1) ∧ fs.length < 1000
        · rw [if_pos hc] at e
          cases (Option.some.inj e)
          obtain ⟨hc3, hc1, hc2⟩ := hc
          have hn := isT0_eq hc3
          refine ⟨F, ρ, .ok d, S', ef, fun F1 H1 v G rv => ?_⟩
          have S1 := S'.grow G
          have hp1 := S1.bh _ _ (upd_same (H := y.B) (a := y.p) (o := .ins y.C y.dx fvs))
          have F1p : F1 y.p = none := (S1.nw _ _ upd_same).trans h0
          have hlen : fvs.length = fs.length := by have := congrArg List.length r.1; simpa using this
          refine ⟨.ref y.p, S1.tk 0 0 hn, y.p, y.C, y.dx, fvs, rfl, hp1, cl, no, by omega, ?_⟩
          have hnew : f ∉ fvs.map (·.1) := by rw [r.1]; exact hc1
          rw [putF_new hnew]
          refine w F1 _ σ G.f ⟨⟨fvs ++ [(f, v)], ⟨?_, ?_⟩, upd_same, ?_⟩, F1p⟩
          · rw [List.map_append, List.map_append, r.1]; rfl
          · rw [List.map_append, List.map_append]
            exact (r.2.mono G.f).app (.one rv)
          · refine ⟨S1.fh.mut F1p, fun c o hc => ?_, S1.f0, fun c o hc => ?_, S1.len, S1.fz, fun i ds hi => ?_, S1.sep, S1.tk⟩
            · by_cases q : c = y.p
              · subst q; rw [upd_same] at hc ⊢; exact hc
              · rw [upd_ne q] at hc ⊢
                exact S1.bh c o (by rw [upd_ne q]; exact hc)
            · by_cases q : c = y.p
              · subst q; rw [F1p, h0]
              · rw [upd_ne q] at hc
                exact S1.nw c o (by rw [upd_ne q]; exact hc)
            · obtain ⟨l, vs, h1, h2, h3, h4, h5⟩ := S1.ow i ds hi
              have hl : l ≠ y.p := ne_of h4 hp1 (by intro z; cases z)
              rw [upd_ne hl] at h3
              exact ⟨l, vs, h1, h2, by rw [upd_ne hl]; exact h3, by rw [upd_ne hl]; exact h4, h5⟩
        · rw [if_neg hc] at e; cases e
/-- Pot.__init__(self, ..) on an object that has no attributes yet -/
def iCal (names : List Str) (na : Nat) (mi : List D → EM (List D)) (fs : Ro → EM (List D)) : Ro → Fs → Option IFl := fun ρ as => if isT0 ρ[0]? = true ∧ as = [] then match fs ρ with
  | some (.ok ds) => if ds.length = na then match mi ds with
    | some (.ok zs) => if zs.length = names.length then some (.nx ρ (names.zip zs)) else none
    | some (.error e) => some (.ex e)
    | none => none
    else none
  | some (.error e) => some (.ex e)
  | none => none
  else none
theorem zip_fst {α β : Type} : ∀ {l : List α} {m : List β}, m.length = l.length → (l.zip m).map (·.1) = l
  | [], [], _ => rfl
  | a :: l, b :: m, h => by rw [List.zip_cons_cons, List.map_cons, zip_fst (by simpa using h)]
theorem zip_snd {α β : Type} : ∀ {l : List α} {m : List β}, m.length = l.length → (l.zip m).map (·.2) = m
  | [], [], _ => rfl
  | a :: l, b :: m, h => by rw [List.zip_cons_cons, List.map_cons, zip_snd (by simpa using h)]
theorem pis_cal {names : List Str} {na : Nat} {mi : List D → EM (List D)} {fa : Ro → EM (List D)} {es : List Expr} (h0 : y.F0 y.p = none) (hst : ∀ t, PA X es t → PS X st (tDrop (tCallG (spI X.K y.A y.C names na mi) [] (WE y.W) (tCons (tVar 0) t)))) (ha : ∀ B', BOk y B' → PA X es (tA X.K (y.fx B') .fz fa)) : PS X st (tIS X.K y (iCal names na mi fa)) :=
  ps_wk (ps_any fun (i : { B' : Hp // BOk y B' }) => hst _ (ha i.1 i.2)) fun E σ H ⟨F, ρ, fs, fl, S, e, w⟩ => by
    obtain ⟨fvs, r, hp, S'⟩ := S.ex
    refine ⟨⟨upd y.B y.p (.ins y.C y.dx fvs), bok_upd⟩, ?_⟩
    unfold iCal at e
    by_cases hc : isT0 ρ[0]? = true ∧ fs = []
    rotate_left
    · rw [if_neg hc] at e; cases e
    rw [if_pos hc] at e
    obtain ⟨hc3, hc1⟩ := hc
    have hn := isT0_eq hc3
    subst hc1
    have hv : fvs = [] := by
      have := r.1
      simpa using this
    subst hv
    cases ef : fa ρ with
    | none => rw [ef] at e; cases e
    | some q =>
      rw [ef] at e
      cases q with
      | error x =>
        cases (Option.some.inj e)
        exact ⟨.ref y.p, S'.tk 0 0 hn, F, ρ, .error x, S', ef, fun F' H' dd G q => w F' H' σ dd (si_of (X := X) (fs := []) (fvs := []) (H := H') (σ := σ) (ρ := ρ) h0 r G.f (S'.grow G)).grow q⟩
      | ok ds =>
        dsimp only at e
        by_cases hc2 : ds.length = na
        rotate_left
        · rw [if_neg hc2] at e; cases e
        · rw [if_pos hc2] at e
          refine ⟨.ref y.p, S'.tk 0 0 hn, F, ρ, .ok ds, S', ef, fun F1 H1 ws G rw' => ?_⟩
          have S1 := S'.grow G
          have hp1 := S1.bh _ _ (upd_same (H := y.B) (a := y.p) (o := .ins y.C y.dx []))
          have F1p : F1 y.p = none := (S1.nw _ _ upd_same).trans h0
          cases em : mi ds with
          | none => rw [em] at e; cases e
          | some q =>
            rw [em] at e
            refine ⟨y.p, y.dx, F1, ws, ds, q, by rw [List.append_nil], hp1, F1p, S1.fh, rw'.repL, hc2, em, ?_⟩
            have old : ∀ a o, a ≠ y.p → y.B a = some o → H1 a = some o := fun a o ha hb => S1.bh a o (by rw [upd_ne ha]; exact hb)
            cases q with
            | error x =>
              cases (Option.some.inj e)
              exact fun F' H' dd G2 q2 => w F' H' σ dd ⟨S1.f0.trans G2.f, fun a o ha hb => G2.h a o ha (old a o ha hb), G2.i, G2.fp, fun a o ha hb => (G2.n a o ha (old a o ha hb)).trans (S1.nw a o (by rw [upd_ne ha]; exact hb))⟩ q2
            | ok zs =>
              dsimp only at e
              split at e
              · rename_i hz
                cases (Option.some.inj e)
                intro F' H' fvs G2 hp2 hlen rf
                refine w F' H' σ (G.f.trans G2.f) ⟨⟨names.zip fvs, ⟨by rw [zip_fst hlen, zip_fst hz], by rw [zip_snd hlen, zip_snd hz]; exact rf⟩, hp2, ?_⟩, G2.fp⟩
                refine ⟨G2.i, fun c o hc => ?_, S1.f0.trans G2.f, fun c o hc => ?_, S1.len, fun i d hi => ?_, fun i ds' hi => ?_, S1.sep, S1.tk⟩
                · by_cases q : c = y.p
                  · subst q; rw [upd_same] at hc; rw [← hc]; exact hp2
                  · rw [upd_ne q] at hc
                    exact G2.h c o q (old c o q hc)
                · by_cases q : c = y.p
                  · subst q; rw [G2.fp, h0]
                  · rw [upd_ne q] at hc
                    exact (G2.n c o q (old c o q hc)).trans (S1.nw c o (by rw [upd_ne q]; exact hc))
                · obtain ⟨v, h1, h2⟩ := S1.fz i d hi
                  exact ⟨v, h1, h2.mono G2.f⟩
                · obtain ⟨l, vs, h1, h2, h3, h4, h5⟩ := S1.ow i ds' hi
                  have hl : l ≠ y.p := ne_of h4 hp1 (by intro z; cases z)
                  rw [upd_ne hl] at h3
                  exact ⟨l, vs, h1, (G2.n l _ hl h4).trans h2, by rw [upd_ne hl]; exact h3, G2.h l _ hl h4, h5.mono G2.f⟩
              · cases e
/-- behind all attributes the object is as any other -/
def iPost (c : Cl) (g : Ro → Option Fl) : Ro → Fs → Option IFl := fun ρ fs => if isT0 ρ[0]? = true ∧ fs.map (·.1) = c.names then match g (ρ.set 0 (.fz (.obj c (fs.map (·.2))))) with
    | some (.nx ρ') => some (.nx ρ' fs)
    | some (.ex e _) => some (.ex e)
    | _ => none
  else none
theorem zip_self {α : Type} : ∀ (l : List (Str × α)), (l.map (·.1)).zip (l.map (·.2)) = l
  | [] => rfl
  | a :: l => by rw [List.map_cons, List.map_cons, List.zip_cons_cons, zip_self l]
theorem pis_post {c : Cl} (h0 : y.F0 y.p = none) (hc : y.A.has c = true) (eC : y.C = y.A.cl c) (h : ∀ B' F0', PSs X rest (tS X.K ⟨y.A, y.T, B', F0', y.W⟩ g)) : PSs X rest (tIF X.K y (iPost c g)) := pss_wk (pss_any fun (i : Hp × Hp) => h i.1 i.2) fun E σ H ⟨F, ρ, fs, fl, S, e, w⟩ => by
  obtain ⟨fvs, r, hp, S'⟩ := S.ex
  unfold iPost at e
  by_cases hcc : isT0 ρ[0]? = true ∧ fs.map (·.1) = c.names
  rotate_left
  · rw [if_neg hcc] at e; cases e
  rw [if_pos hcc] at e
  obtain ⟨hc3, hnm⟩ := hcc
  have hn := isT0_eq hc3
  have hv := S'.tk 0 0 hn
  have hz : c.names.zip (fvs.map (·.2)) = fvs := by rw [← hnm, ← r.1]; exact zip_self fvs
  have ex : Ex F (upd F y.p (.ins y.C y.dx fvs)) := .new S.fp
  have hlen : (fvs.map (·.2)).length = c.names.length := by rw [← hnm, ← r.1, List.length_map, List.length_map]
  have ro : Rep X.K y.A (upd F y.p (.ins y.C y.dx fvs)) (.ref y.p) (.obj c (fs.map (·.2))) := by
    refine Rep.obj (dx := y.dx) (vs := fvs.map (·.2)) hc ?_ hlen (r.2.mono ex)
    rw [hz, ← eC]
    exact upd_same
  have S2 : SR X.K y.A y.T (upd y.B y.p (.ins y.C y.dx fvs)) (upd y.F0 y.p (.ins y.C y.dx fvs)) (upd F y.p (.ins y.C y.dx fvs)) H σ ρ := by
    refine ⟨fun a o ha => ?_, S'.bh, fun a o ha => ?_, fun a o ha => ?_, S'.len, fun i d hi => ?_, fun i ds hi => ?_, S'.sep, S'.tk⟩
    · by_cases q : a = y.p
      · subst q; rw [upd_same] at ha; rw [← ha]; exact hp
      · rw [upd_ne q] at ha; exact S'.fh a o ha
    · by_cases q : a = y.p
      · subst q; rw [upd_same] at ha ⊢; exact ha
      · rw [upd_ne q] at ha ⊢; exact S'.f0 a o ha
    · by_cases q : a = y.p
      · subst q; rw [upd_same, upd_same]
      · rw [upd_ne q, upd_ne q]; exact S'.nw a o ha
    · obtain ⟨v, h1, h2⟩ := S'.fz i d hi
      exact ⟨v, h1, h2.mono ex⟩
    · obtain ⟨l, vs, h1, h2, h3, h4, h5⟩ := S'.ow i ds hi
      have hl : l ≠ y.p := ne_of h4 hp (by intro z; cases z)
      exact ⟨l, vs, h1, by rw [upd_ne hl]; exact h2, h3, h4, h5.mono ex⟩
  have ne0 : ∀ i e, (ρ.set 0 (.fz (.obj c (fs.map (·.2)))))[i]? = some e → (i = 0 ∧ e = .fz (.obj c (fs.map (·.2)))) ∨ (i ≠ 0 ∧ ρ[i]? = some e) := fun i e hi => by
    by_cases q : i = 0
    · subst q
      rw [List.getElem?_set] at hi
      rw [if_pos rfl] at hi
      split at hi
      · exact .inl ⟨rfl, (Option.some.inj hi).symm⟩
      · cases hi
    · rw [List.getElem?_set_ne (fun z => q z.symm)] at hi
      exact .inr ⟨q, hi⟩
  have S3 : SR X.K y.A y.T (upd y.B y.p (.ins y.C y.dx fvs)) (upd y.F0 y.p (.ins y.C y.dx fvs)) (upd F y.p (.ins y.C y.dx fvs)) H σ (ρ.set 0 (.fz (.obj c (fs.map (·.2))))) := by
    refine ⟨S2.fh, S2.bh, S2.f0, S2.nw, by rw [List.length_set]; exact S2.len, fun i d hi => ?_, fun i ds hi => ?_, fun i j ds es hij hi hj => ?_, fun i n hi => ?_⟩
    · rcases ne0 i _ hi with ⟨rfl, h2⟩ | ⟨_, h2⟩
      · cases h2
        exact ⟨_, hv, ro⟩
      · exact S2.fz i d h2
    · rcases ne0 i _ hi with ⟨_, h2⟩ | ⟨_, h2⟩
      · cases h2
      · exact S2.ow i ds h2
    · rcases ne0 i _ hi with ⟨_, h2⟩ | ⟨_, h2⟩
      · cases h2
      rcases ne0 j _ hj with ⟨_, h3⟩ | ⟨_, h3⟩
      · cases h3
      exact S2.sep i j ds es hij h2 h3
    · rcases ne0 i _ hi with ⟨_, h2⟩ | ⟨_, h2⟩
      · cases h2
      · exact S2.tk i n h2
  have fin : ∀ F' H' σ' ρ', Ex (upd F y.p (.ins y.C y.dx fvs)) F' → SR X.K y.A y.T (upd y.B y.p (.ins y.C y.dx fvs)) (upd y.F0 y.p (.ins y.C y.dx fvs)) F' H' σ' ρ' → GrowP y.p y.F0 y.B F H' ∧ H' y.p = some (.ins y.C y.dx fvs) := fun F' H' σ' ρ' e' Z => by
    refine ⟨⟨S'.f0, fun a o ha hb => Z.bh a o (by rw [upd_ne ha]; exact hb), (ex.trans e').trans Z.fh, S.fp, fun a o ha hb => S'.nw a o (by rw [upd_ne ha]; exact hb)⟩, Z.bh _ _ upd_same⟩
  cases eg : g (ρ.set 0 (.fz (.obj c (fs.map (·.2))))) with
  | none => rw [eg] at e; cases e
  | some f1 =>
    rw [eg] at e
    refine ⟨(upd y.B y.p (.ins y.C y.dx fvs), upd y.F0 y.p (.ins y.C y.dx fvs)), upd F y.p (.ins y.C y.dx fvs), _, f1, S3, eg, ?_⟩
    cases f1 with
    | nx ρ' =>
      cases (Option.some.inj e)
      exact fun F' H' σ' G Z => w F H' σ' fvs (fin F' H' σ' ρ' G Z).1 (fin F' H' σ' ρ' G Z).2 r
    | ex x ρ' =>
      cases (Option.some.inj e)
      exact fun F' H' σ' G Z dd q => w F H' σ' dd (fin F' H' σ' ρ' G Z).1 q
    | rt d => cases e
    | rto d => cases e
    | bk d => cases e
    | ct d => cases e
end
end Tw
/-! TwK: the dict of names that Garden's __init__ fills. -/
namespace Tw
open PySem PySem.Spec PyProof.Rows L2
def tk0 (ρ : Ro) : Bool := ρ.all fun e => match e with
  | .tk n => n == 0 || n == 2
  | _ => true
theorem tk0_of {ρ : Ro} (h : tk0 ρ = true) {j n : Nat} (e : ρ[j]? = some (.tk n)) : n = 0 ∨ n = 2 := by
  have := List.all_eq_true.mp h _ (List.mem_of_getElem? e)
  simpa using this
def Ix.TN (y : Ix) (l : Addr) : Nat → V := fun n => if n = 0 then .ref y.p else if n = 2 then .ref y.q else .ref l
def Ix.BN (y : Ix) (l : Addr) (ks : List (Str × Int)) : Hp := upd (upd y.B y.p (.ins y.C y.dx [])) l (.dK (ordK ks))
def Ix.fxN (y : Ix) (l : Addr) (ks : List (Str × Int)) : Fx := ⟨y.A, y.TN l, y.BN l ks, y.F0, y.W⟩
structure SN (K : PySem.W.Frag) (y : Ix) (i : Nat) (l : Addr) (ks : List (Str × Int)) (F H : Hp) (σ : L2.St) (ρ : Ro) : Prop where
  fp : F y.p = none
  lp : l ≠ y.p
  fl : F l = none
  f0 : y.F0 l = none
  bl : y.B l = none
  sr : SR K y.A (y.TN l) (y.BN l ks) y.F0 F H σ ρ
  t0 : ∀ j n, ρ[j]? = some (.tk n) → j ≠ i → n = 0 ∨ n = 2
section
variable {K : PySem.W.Frag} {y : Ix} {i l : Nat} {ks : List (Str × Int)} {F H : Hp} {σ : L2.St} {ρ : Ro}
theorem SN.hl (N : SN K y i l ks F H σ ρ) : H l = some (.dK (ordK ks)) := N.sr.bh _ _ upd_same
theorem SN.new (h0 : y.F0 y.p = none) (S : SI K y F H σ ρ []) (ht : tk0 ρ = true) (hl : H l = none) : SN K y i l [] F (upd H l (.dK [])) (σ.set i (some (.ref l))) (ρ.set i (.tk 1)) := by
  obtain ⟨fvs, r, hp, S'⟩ := S.ex
  have hv : fvs = [] := by
    have := r.1
    simpa using this
  subst hv
  have Fl : F l = none := S'.fh.free hl
  have lp : l ≠ y.p := fun z => by rw [z, hp] at hl; cases hl
  have Bl : y.B l = none := by
    have := S'.bh.free hl
    rwa [upd_ne lp] at this
  refine ⟨S.fp, lp, Fl, S'.f0.free Fl, Bl, ?_, fun j n e hj => ?_⟩
  · refine ⟨fun a o ha => ?_, fun a o ha => ?_, S'.f0, fun a o ha => ?_, by rw [List.length_set, List.length_set, S'.len], fun j d hj => ?_, fun j ds hj => ?_, fun j k ds es hne hj hk => ?_, fun j n hj => ?_⟩
    · rw [upd_ne (ne_of_none ha Fl)]; exact S'.fh a o ha
    · unfold Ix.BN at ha
      by_cases q : a = l
      · subst q; rw [upd_same] at ha ⊢; exact ha
      · rw [upd_ne q] at ha ⊢; exact S'.bh a o ha
    · unfold Ix.BN at ha
      by_cases q : a = l
      · subst q; rw [Fl, S'.f0.free Fl]
      · rw [upd_ne q] at ha; exact S'.nw a o ha
    · rcases set_get hj with ⟨rfl, q⟩ | ⟨q, h'⟩
      · cases q
      · obtain ⟨w, h1, h2⟩ := S'.fz j d h'
        exact ⟨w, by rw [List.getElem?_set_ne (Ne.symm q)]; exact h1, h2⟩
    · rcases set_get hj with ⟨rfl, q⟩ | ⟨q, h'⟩
      · cases q
      · obtain ⟨m, vs, h1, h2, h3, h4, h5⟩ := S'.ow j ds h'
        have ml : m ≠ l := ne_of_none h4 hl
        refine ⟨m, vs, by rw [List.getElem?_set_ne (Ne.symm q)]; exact h1, h2, ?_, by rw [upd_ne ml]; exact h4, h5⟩
        show upd _ l _ m = none
        rw [upd_ne ml]; exact h3
    · rcases set_get hj with ⟨rfl, q⟩ | ⟨q, hj'⟩
      · cases q
      · rcases set_get hk with ⟨rfl, q2⟩ | ⟨q2, hk'⟩
        · cases q2
        · rw [List.getElem?_set_ne (Ne.symm q), List.getElem?_set_ne (Ne.symm q2)]
          exact S'.sep j k ds es hne hj' hk'
    · rcases set_get hj with ⟨rfl, q⟩ | ⟨q, h'⟩
      · cases q
        have hlt : j < σ.length := by
          have := (List.getElem?_eq_some_iff.mp hj).1
          rw [List.length_set] at this
          rw [S'.len]; exact this
        exact List.getElem?_set_self hlt
      · rw [List.getElem?_set_ne (Ne.symm q)]
        rcases tk0_of ht h' with rfl | rfl
        · exact S'.tk j 0 h'
        · exact S'.tk j 2 h'
  · rcases set_get e with ⟨q, _⟩ | ⟨_, h'⟩
    · exact absurd q hj
    · exact tk0_of ht h'
theorem SN.grow {F' H' : Hp} (N : SN K y i l ks F H σ ρ) (G : Grow F H F' H') : SN K y i l ks F' H' σ ρ := by
  have b1 : y.BN l ks l = some (.dK (ordK ks)) := upd_same
  have b2 : y.BN l ks y.p = some (.ins y.C y.dx []) := by
    show upd _ l _ y.p = _
    rw [upd_ne (fun z => N.lp z.symm), upd_same]
  exact ⟨by rw [G.n _ _ (N.sr.bh _ _ b2)]; exact N.fp, N.lp, by rw [G.n _ _ (N.sr.bh _ _ b1)]; exact N.fl, N.f0, N.bl, N.sr.grow G, N.t0⟩
theorem SN.of {F' H' : Hp} {σ' : L2.St} {ρ' : Ro} (h0 : y.F0 y.p = none) (N : SN K y i l ks F H σ ρ) (S : SR K y.A (y.TN l) (y.BN l ks) y.F0 F' H' σ' ρ') (ht : ∀ j n, ρ'[j]? = some (.tk n) → j ≠ i → n = 0 ∨ n = 2) : SN K y i l ks F' H' σ' ρ' := by
  have b1 : y.BN l ks l = some (.dK (ordK ks)) := upd_same
  have b2 : y.BN l ks y.p = some (.ins y.C y.dx []) := by
    show upd _ l _ y.p = _
    rw [upd_ne (fun z => N.lp z.symm), upd_same]
  exact ⟨by rw [S.nw _ _ b2]; exact h0, N.lp, by rw [S.nw _ _ b1]; exact N.f0, N.f0, N.bl, S, ht⟩
theorem SN.put {ks' : List (Str × Int)} (N : SN K y i l ks F H σ ρ) : SN K y i l ks' F (upd H l (.dK (ordK ks'))) σ ρ := by
  refine ⟨N.fp, N.lp, N.fl, N.f0, N.bl, ?_, N.t0⟩
  have S := N.sr
  refine ⟨fun a o ha => ?_, fun a o ha => ?_, S.f0, fun a o ha => ?_, S.len, S.fz, fun j ds hj => ?_, S.sep, S.tk⟩
  · rw [upd_ne (ne_of_none ha N.fl)]; exact S.fh a o ha
  · by_cases q : a = l
    · subst q
      have : y.BN a ks' a = some (.dK (ordK ks')) := upd_same
      rw [this] at ha; rw [upd_same]; exact ha
    · have e1 : y.BN l ks' a = y.BN l ks a := by unfold Ix.BN; rw [upd_ne q, upd_ne q]
      rw [e1] at ha; rw [upd_ne q]; exact S.bh a o ha
  · by_cases q : a = l
    · subst q; rw [N.fl, N.f0]
    · have e1 : y.BN l ks' a = y.BN l ks a := by unfold Ix.BN; rw [upd_ne q, upd_ne q]
      rw [e1] at ha; exact S.nw a o ha
  · obtain ⟨m, vs, h1, h2, h3, h4, h5⟩ := S.ow j ds hj
    have ml : m ≠ l := fun z => by
      subst z
      have : y.BN m ks m = some (.dK (ordK ks)) := upd_same
      rw [this] at h3; cases h3
    have e1 : y.BN l ks' m = y.BN l ks m := by unfold Ix.BN; rw [upd_ne ml, upd_ne ml]
    exact ⟨m, vs, h1, h2, by rw [e1]; exact h3, by rw [upd_ne ml]; exact h4, h5⟩
theorem SN.growP (N : SN K y i l ks F H σ ρ) : GrowP y.p y.F0 y.B F H := by
  have S := N.sr
  have ne : ∀ a o, y.B a = some o → a ≠ l := fun a o ha => ne_of_none ha N.bl
  have e1 : ∀ a o, a ≠ y.p → y.B a = some o → y.BN l ks a = some o := fun a o hp ha => by
    unfold Ix.BN
    rw [upd_ne (ne a o ha), upd_ne hp]; exact ha
  exact ⟨S.f0, fun a o hp ha => S.bh a o (e1 a o hp ha), S.fh, N.fp, fun a o hp ha => S.nw a o (e1 a o hp ha)⟩
theorem SN.lent {ks' : List (Str × Int)} {G : Hp} (N : SN K y i l ks F H σ ρ) (eG : Ex G (y.BN l ks')) (lG : LstH G) : Ex G H := fun a o ha => by
  have h1 := eG a o ha
  obtain ⟨vs, rfl⟩ := lG a o ha
  refine N.sr.bh a _ ?_
  by_cases q : a = l
  · subst q
    have : y.BN a ks' a = some (.dK (ordK ks')) := upd_same
    rw [this] at h1; cases h1
  · unfold Ix.BN at h1 ⊢
    rw [upd_ne q] at h1 ⊢; exact h1
/-- the dict is done: it is as any other value -/
theorem SN.done (N : SN K y i l ks F H σ ρ) (hi : ρ[i]? = some (.tk 1)) : ∃ F', Ex F F' ∧ SI K y F' H σ (ρ.set i (.fz (.ord ks))) [] := by
  have S := N.sr
  have hl := N.hl
  have ex : Ex F (upd F l (.dK (ordK ks))) := .new N.fl
  have hp : H y.p = some (.ins y.C y.dx []) := S.bh _ _ (by show upd _ l _ y.p = _; rw [upd_ne (fun z => N.lp z.symm), upd_same])
  have hv : σ[i]? = some (some (.ref l)) := S.tk i 1 hi
  have Bl : upd y.B y.p (.ins y.C y.dx []) l = none := by rw [upd_ne N.lp]; exact N.bl
  refine ⟨_, ex, ⟨[], ⟨rfl, .nil⟩, hp, ?_⟩, by rw [upd_ne (fun z => N.lp z.symm)]; exact N.fp⟩
  have eB : ∀ a o, upd y.B y.p (.ins y.C y.dx []) a = some o → a ≠ l ∧ y.BN l ks a = some o := fun a o ha => by
    have q := ne_of_none ha Bl
    exact ⟨q, by unfold Ix.BN; rw [upd_ne q]; exact ha⟩
  refine ⟨fun a o ha => ?_, fun a o ha => S.bh a o (eB a o ha).2, S.f0.trans ex, fun a o ha => ?_, by rw [List.length_set]; exact S.len, fun j d hj => ?_, fun j ds hj => ?_, fun j k ds es hne hj hk => ?_, fun j n hj => ?_⟩
  · by_cases q : a = l
    · subst q; rw [upd_same] at ha; rw [← ha]; exact hl
    · rw [upd_ne q] at ha; exact S.fh a o ha
  · rw [upd_ne (eB a o ha).1]; exact S.nw a o (eB a o ha).2
  · rcases set_get hj with ⟨rfl, q⟩ | ⟨q, h'⟩
    · cases q
      exact ⟨_, hv, .ord upd_same⟩
    · obtain ⟨w, h1, h2⟩ := S.fz j d h'
      exact ⟨w, h1, h2.mono ex⟩
  · rcases set_get hj with ⟨rfl, q⟩ | ⟨q, h'⟩
    · cases q
    · obtain ⟨m, vs, h1, h2, h3, h4, h5⟩ := S.ow j ds h'
      have ml : m ≠ l := fun z => by
        subst z
        have : y.BN m ks m = some (.dK (ordK ks)) := upd_same
        rw [this] at h3; cases h3
      refine ⟨m, vs, h1, by rw [upd_ne ml]; exact h2, ?_, h4, h5.mono ex⟩
      unfold Ix.BN at h3
      rw [upd_ne ml] at h3; exact h3
  · rcases set_get hj with ⟨rfl, q⟩ | ⟨q, hj'⟩
    · cases q
    · rcases set_get hk with ⟨rfl, q2⟩ | ⟨q2, hk'⟩
      · cases q2
      · exact S.sep j k ds es hne hj' hk'
  · rcases set_get hj with ⟨rfl, q⟩ | ⟨q, h'⟩
    · cases q
    · rcases N.t0 j n h' q with rfl | rfl
      · exact S.tk j 0 h'
      · exact S.tk j 2 h'
end
/-- a pot's name -/
def nmOf (d : D) : Option Str := match d with
  | .obj .pot (.str s :: _) => some s
  | .obj .cactus (.str s :: _) => some s
  | _ => none
theorem nmOf_fld {d : D} {s : Str} (h : nmOf d = some s) : dFld "name" d = ok (.str s) := by
  unfold nmOf at h
  split at h
  · cases (Option.some.inj h); rfl
  · cases (Option.some.inj h); rfl
  · cases h
def hasN (ks : List (Str × Int)) (s : Str) : Bool := ks.any fun k => decide (k.1 = s)
theorem ord_val {ks : List (Str × Int)} {s : Str} : (valV (ordK ks) (Sum.inr s)).isSome = hasN ks s := by
  rw [← valV_any]
  unfold ordK hasN
  induction ks with
  | nil => rfl
  | cons k ks ih =>
    rw [List.map_cons, List.any_cons, List.any_cons, ih]
    congr 1
    exact decide_eq_decide.mpr ⟨fun q => Sum.inr.inj q, fun q => by rw [q]⟩
theorem ord_put {ks : List (Str × Int)} {s : Str} {n : Int} (h : hasN ks s = false) : putK (ordK ks) (Sum.inr s) (.int n) = ordK (ks ++ [(s, n)]) := by
  unfold putK
  have : ((ordK ks).any fun kv => decide (kv.1 = Sum.inr s)) = false := by rw [valV_any, ord_val]; exact h
  rw [this]
  unfold ordK
  rw [List.map_append]
  rfl
def namesGo : List D → List (Str × Int) → Option (Option (List (Str × Int)))
  | [], ks => some (some ks)
  | d :: ds, ks => match nmOf d with
    | none => none
    | some s => if hasN ks s = true then some none else namesGo ds (ks ++ [(s, (ks.length : Int))])
section
variable {X : Cx} {y : Ix}
def tNB (K : PySem.W.Frag) (y : Ix) (i ip : Nat) : TS := fun E σ H => ∃ l ks F ρ d s, SN K y i l ks F H σ ρ ∧ ρ[i]? = some (.tk 1) ∧ ρ[ip]? = some (.fz d) ∧ nmOf d = some s ∧ ks.length < 100000 ∧
  if hasN ks s = true then ∀ F' H' σ' dd, GrowP y.p y.F0 y.B F' H' → XR H' .badPot dd → y.W (.ref (y.A.xc .badPot)) dd σ' H'
  else ∀ F' H', Ex F F' → SN K y i l (ks ++ [(s, (ks.length : Int))]) F' H' σ ρ → E.nx σ H'
theorem pis_nbody {i ip : Nat} {en ev en2 ev2 el : Expr} {rs : List Stmt} {p1 p2 p3 p4 : Pos} (hu : X.A.units + 1 < PySem.cLine) (hn : ∀ l ks, PE X en (tK X.K (y.fxN l ks) .fz (e1 (dFld "name") (eVarB ip)))) (hv : PE X ev (tVar i))
    (hn2 : ∀ l ks, PE X en2 (tK X.K (y.fxN l ks) .fz (e1 (dFld "name") (eVarB ip)))) (hv2 : PE X ev2 (tVar i)) (hr : ∀ l ks, PSs X rs (tS X.K (y.fxN l ks) (sRaise .badPot)))
    (hl : PE X el (tCB (fun xs H Q => ∃ a kvs, xs = [V.ref a] ∧ H a = some (.dK kvs) ∧ Q (.int kvs.length) H) (tCons (tVar i) tNil))) (h1 : behindInMarks .In ev = false) (hs : swapsWith el (some (.Subscript ev2 en2 p3)) p4.line X.env = pure false) :
    PSs X [.If (.Compare en [.In] [ev] p1) rs [] p2, .Assign [.Subscript ev2 en2 p3] el p4] (tNB X.K y i ip) := by
  have a1 := pe_any fun (z : Addr × List (Str × Int)) => hn z.1 z.2
  have a2 := pe_any fun (z : Addr × List (Str × Int)) => hn2 z.1 z.2
  have a3 := pss_any fun (z : Addr × List (Str × Int)) => hr z.1 z.2
  refine pss_wk (pss_cons (ps_if (pt_cmp (pc_din hu a1 hv) h1) a3 pss_nil) (pss_one (ps_dput hu hv2 a2 hl hs))) fun E σ H q => ?_
  obtain ⟨l, ks, F, ρ, d, s, N, ei, ep, es, hlen, q⟩ := q
  have e1 : Tw.e1 (dFld "name") (eVarB ip) ρ = ok (.str s) := by
    unfold Tw.e1 eVarB
    rw [ep]
    exact nmOf_fld es
  refine ⟨(l, ks), F, ρ, .ok (.str s), N.sr, e1, fun F1 H1 v G r => ?_⟩
  have hvs : v = .str s := by cases (show Rep X.K y.A F1 v (.str s) from r); rfl
  subst hvs
  have N1 := N.grow G
  refine ⟨.ref l, N1.sr.tk i 1 ei, l, _, rfl, DGet.k (k := Sum.inr s) N1.hl, _, rfl, ?_⟩
  rw [ord_val]
  cases hh : hasN ks s with
  | true =>
    rw [if_pos hh] at q
    rw [if_pos rfl]
    exact ⟨(l, ks), F1, ρ, .ex .badPot ρ, N1.sr, rfl, fun F2 H2 σ2 e2 S2 dd xr => q F2 H2 σ2 dd (N1.of (by
      have b2 : y.BN l ks y.p = some (.ins y.C y.dx []) := by
        show upd _ l _ y.p = _
        rw [upd_ne (fun z => N1.lp z.symm), upd_same]
      rw [← N1.sr.nw _ _ b2]; exact N1.fp) S2 N1.t0).growP xr⟩
  | false =>
    rw [if_neg (by rw [hh]; decide)] at q
    rw [if_neg (by decide)]
    refine ⟨.ref l, N1.sr.tk i 1 ei, l, _, rfl, N1.hl, ?_⟩
    refine ⟨.ref l, N1.sr.tk i 1 ei, (l, ks), F1, ρ, .ok (.str s), N1.sr, e1, fun F2 H2 v2 G2 r2 => ?_⟩
    have hvs : v2 = .str s := by cases (show Rep X.K y.A F2 v2 (.str s) from r2); rfl
    subst hvs
    have N2 := N1.grow G2
    refine ⟨l, _, rfl, DPut.k (k := Sum.inr s) N2.hl (by unfold ordK; rw [List.length_map]; exact Nat.lt_trans hlen (by decide)), ?_⟩
    rw [ord_put hh]
    have el : ((ordK ks).length : Int) = (ks.length : Int) := by unfold ordK; rw [List.length_map]
    rw [el]
    exact q _ _ (G.f.trans G2.f) N2.put
def isUn : Option Ent → Bool
  | some .un => true
  | _ => false
theorem isUn_eq {o : Option Ent} (h : isUn o = true) : o = some .un := by
  unfold isUn at h
  split at h
  · rfl
  · cases h
def iNames (i ip : Nat) (fi : Ro → EM (List D)) (g2 : Ro → Fs → Option IFl) : Ro → Fs → Option IFl := fun ρ fs => if tk0 ρ = true ∧ fs = [] ∧ ip ≠ i ∧ isUn ρ[ip]? = true ∧ i < ρ.length then match fi (ρ.set i (.tk 1)) with
    | some (.ok ds) => if ds.length < 100000 then match namesGo ds [] with
      | some (some ks) => g2 (ρ.set i (.fz (.ord ks))) []
      | some none => some (.ex .badPot)
      | none => none
      else none
    | _ => none
  else none
theorem pi_any {tg e : Expr} {ι : Type} {t : ι → TI} (h : ∀ i, PI X tg e (t i)) : PI X tg e (fun σ H R => ∃ i, t i σ H R) := ⟨fun pins s σ H R I ⟨i, q⟩ => (h i).run pins s σ H R I q⟩
theorem pis_names {i ip : Nat} {fi : Ro → EM (List D)} {a iter tg : Expr} {st1 : Stmt} {body rest : List Stmt} {pos : Pos} {g2 : Ro → Fs → Option IFl} (h0 : y.F0 y.p = none) (hp : PassesOwn (model X.prog X.w) X.A X.env X.xe) (hc : X.calm = true) (h1 : PS X st1 (tAsg tDNewK (gName i)))
    (hi : ∀ l ks, y.B l = none → PI X tg iter (tI X.K (y.fxN l ks) fi)) (hg : PG X tg (gName ip)) (hb : PSs X body (tNB X.K y i ip)) (hr : PSs X rest (tIF X.K y g2)) (hs : ∀ z, foldedSetIterable iter X.env z = pure z := by intro _; rfl) :
    PSs X (st1 :: .For tg iter body [] pos :: rest) (tIF X.K y (iNames i ip fi g2)) := by
  refine pss_wk (pss_cons h1 (pss_cons (ps_for hp hc (pi_any fun (z : { z : Addr × List (Str × Int) // y.B z.1 = none }) => hi z.1.1 z.1.2 z.2) hg hb hs) hr)) fun E σ H ⟨F, ρ, fs, fl, S, e, w⟩ => ?_
  unfold iNames at e
  by_cases hh : tk0 ρ = true ∧ fs = [] ∧ ip ≠ i ∧ isUn ρ[ip]? = true ∧ i < ρ.length
  rotate_left
  · rw [if_neg hh] at e; cases e
  rw [if_pos hh] at e
  obtain ⟨ht, hfs, n1, hun, hil⟩ := hh
  subst hfs
  have hun := isUn_eq hun
  split at e
  rotate_left
  · cases e
  rename_i ds hq
  by_cases hds : ds.length < 100000
  rotate_left
  · rw [if_neg hds] at e; cases e
  rw [if_pos hds] at e
  intro l hl
  have N := SN.new (i := i) h0 S ht hl
  generalize er1 : ρ.set i (.tk 1) = ρ1 at N
  have u1 : ρ1[ip]? = some .un := by rw [← er1, List.getElem?_set_ne (Ne.symm n1)]; exact hun
  rw [er1] at hq
  have t1 : ρ1[i]? = some (.tk 1) := by rw [← er1]; exact List.getElem?_set_self hil
  refine ⟨⟨(l, []), N.bl⟩, F, ρ1, .ok ds, N.sr, hq, fun F1 H1 J Gq G eG lG hit => ?_⟩
  have N1 := N.grow G
  cases er : namesGo ds [] with
  | none => rw [er] at e; cases e
  | some r =>
    rw [er] at e
    refine ⟨fun k m σ' H' => m = ds.length - k ∧ ∃ ks F2, Ex F1 F2 ∧ SN X.K y i l ks F2 H' σ' ρ1 ∧ ks.length = k ∧ namesGo (ds.drop k) ks = some r, ⟨ds.length, rfl, [], F1, .refl _, N1, rfl, er⟩, ?_⟩
    rintro k m σ2 H2 ⟨rfl, ks, F2, ex, N2, hk, e2⟩
    cases ed : ds[k]? with
    | none =>
      have hle : ds.length ≤ k := List.getElem?_eq_none_iff.mp ed
      rw [List.drop_eq_nil_of_le hle] at e2
      cases (Option.some.inj e2)
      obtain ⟨F3, ex3, SI3⟩ := N2.done t1
      have e' : g2 (ρ.set i (.fz (.ord ks))) [] = some fl := e
      have eset : ρ1.set i (.fz (.ord ks)) = ρ.set i (.fz (.ord ks)) := by rw [← er1, List.set_set]
      rw [eset] at SI3
      refine .inl ⟨hit.stop k H2 (ex.trans N2.sr.fh) (N2.lent eG lG) hle, F3, _, [], fl, SI3, e', ?_⟩
      cases fl with
      | nx ρ fs => exact w
      | ex x => exact w
    | some d =>
      have hlt : k < ds.length := (List.getElem?_eq_some_iff.mp ed).1
      have hd : ds.drop k = d :: ds.drop (k + 1) := by
        rw [List.drop_eq_getElem_cons hlt, (List.getElem?_eq_some_iff.mp ed).2]
      rw [hd] at e2
      refine .inr ⟨hit.go k d H2 (ex.trans N2.sr.fh) (N2.lent eG lG) ed, fun σ' H' => ∃ ks F3, Ex F1 F3 ∧ SN X.K y i l ks F3 H' σ' ρ1 ∧ ks.length = k + 1 ∧ namesGo (ds.drop (k + 1)) ks = some r, fun σ' H' n => ⟨ds.length - (k + 1), by omega, rfl, n⟩, fun v H' hy => ?_⟩
      obtain ⟨F3, G3, rv⟩ := hit.yld k d F2 H2 v H' ex N2.sr.fh (N2.lent eG lG) ed hy
      have N3 := N2.grow G3
      unfold namesGo at e2
      cases es : nmOf d with
      | none => rw [es] at e2; cases e2
      | some s =>
        rw [es] at e2
        dsimp only at e2
        have hpl : ip < ρ1.length := (List.getElem?_eq_some_iff.mp u1).1
        have Sset := N3.sr.setF (i := ip) rv
        have N4 : SN X.K y i l ks F3 H' (σ2.set ip (some v)) (ρ1.set ip (.fz d)) := N3.of h0 Sset fun j n hj hne => by
          rcases set_get hj with ⟨_, q⟩ | ⟨_, h'⟩
          · cases q
          · exact N3.t0 j n h' hne
        refine ⟨l, ks, F3, ρ1.set ip (.fz d), d, s, N4, by rw [List.getElem?_set_ne n1]; exact t1, List.getElem?_set_self hpl, es, by omega, ?_⟩
        cases hh : hasN ks s with
        | true =>
          rw [if_pos rfl]
          rw [hh, if_pos rfl] at e2
          cases (Option.some.inj e2)
          cases (Option.some.inj e)
          exact w
        | false =>
          rw [if_neg (by decide)]
          rw [hh, if_neg (by decide)] at e2
          intro F5 H5 e5 N5
          exact ⟨_, F5, (ex.trans G3.f).trans e5, N5.of h0 (by
            have := N5.sr.drop (i := ip)
            rwa [List.set_set, show ρ1.set ip Ent.un = ρ1 from by
              apply List.ext_getElem?
              intro j
              by_cases q : j = ip
              · subst q; rw [List.getElem?_set_self hpl, u1]
              · rw [List.getElem?_set_ne (Ne.symm q)]] at this) N3.t0, by rw [List.length_append, hk]; rfl, e2⟩
end
end Tw
/-! TwL: an __init__ by its body; Pot.__init__(self, ..). -/
namespace Tw
open PySem PySem.Spec PyProof.Rows L2
def startI (n : Nat) (ds : List D) : Ro := .tk 0 :: startE (n - 1) ds
def runI (names : List Str) (n : Nat) (body : Ro → Fs → Option IFl) (ds : List D) : EM (List D) := match body (startI n ds) [] with
  | some (.nx _ fs) => if fs.map (·.1) = names then ok (fs.map (·.2)) else none
  | some (.ex e) => some (.error e)
  | none => none
theorem SR.consT {K : PySem.W.Frag} {A : Ad} {T : Nat → V} {B F0 F H : Hp} {σ : L2.St} {ρ : Ro} {n : Nat} (S : SR K A T B F0 F H σ ρ) : SR K A T B F0 F H (some (T n) :: σ) (.tk n :: ρ) := by
  refine ⟨S.fh, S.bh, S.f0, S.nw, by rw [List.length_cons, List.length_cons, S.len], fun i d h => ?_, fun i ds h => ?_, fun i j ds es hne hi hj => ?_, fun i m h => ?_⟩
  · cases i with
    | zero => cases h
    | succ i => exact S.fz i d h
  · cases i with
    | zero => cases h
    | succ i => exact S.ow i ds h
  · cases i with
    | zero => cases hi
    | succ i =>
      cases j with
      | zero => cases hj
      | succ j => exact S.sep i j ds es (fun q => hne (by rw [q])) hi hj
  · cases i with
    | zero => cases h; rfl
    | succ i => exact S.tk i m h
theorem SR.reT {K : PySem.W.Frag} {A : Ad} {T T' : Nat → V} {B F0 F H : Hp} {σ : L2.St} {ρ : Ro} (S : SR K A T B F0 F H σ ρ) (h : ∀ (i : Nat) n, ρ[i]? = some (.tk n) → T' n = T n) : SR K A T' B F0 F H σ ρ :=
  ⟨S.fh, S.bh, S.f0, S.nw, S.len, S.fz, S.ow, S.sep, fun i n e => by rw [h i n e]; exact S.tk i n e⟩
theorem startE_tk {n : Nat} {ds : List D} {i m : Nat} (h : (startE n ds)[i]? = some (.tk m)) : False := by
  unfold startE at h
  have := List.mem_of_getElem? h
  rcases List.mem_append.mp this with q | q
  · obtain ⟨d, _, e⟩ := List.mem_map.mp q
    cases e
  · cases (List.eq_of_mem_replicate q)
theorem start_cons {a : Str} {N : List Str} {v : V} {ws : List V} : L2.start (a :: N) (v :: ws) = some v :: L2.start N ws := by
  unfold L2.start
  rw [List.map_cons, List.cons_append, List.length_cons, List.length_cons, Nat.add_sub_add_right]
section
variable {P : Program} {w : World} {K : PySem.W.Frag} {mg : Str → Option Value} {base : Heap}
theorem spI_len {A : Ad} {C : Addr} {names : List Str} {na : Nat} {m : List D → EM (List D)} : ∀ vs H Q E, spI K A C names na m vs H Q E → vs.length = na + 1 := fun vs H Q E ⟨p, dx, F, ws, ds, r, e, _, _, _, rl, hl, _⟩ => by
  rw [e, List.length_cons, rl.length, hl]
theorem run_init {A : Ad} {C : Addr} {names : List Str} {na : Nat} {a : Str} {N : List Str} {vs : List V} {H : Hp} {Q : VK} {E : XK} {body : Ro → Fs → Option IFl} (h : spI K A C names na (runI names (a :: N).length body) vs H Q E) :
    ∃ y : Ix, y.A = A ∧ y.C = C ∧ y.F0 y.p = none ∧ tIF K y body { nx := fun _ H' => Q .non H', rt := Q } (L2.start (a :: N) vs) H ∧ y.W = fun cls d _ H' => E cls d H' := by
  obtain ⟨p, dx, F, ws, ds, r, rfl, hp, fp, ex, rl, hl, hm, w⟩ := h
  refine ⟨⟨A, H, F, fun cls d _ H' => E cls d H', C, p, dx, p⟩, rfl, rfl, fp, ?_, rfl⟩
  unfold runI at hm
  have S0 : SR K A (fun _ => .non) H F F H (L2.start N ws) (startE N.length ds) := SR.begin ex rl
  have S1 : SR K A (Ix.T ⟨A, H, F, fun cls d _ H' => E cls d H', C, p, dx, p⟩) H F F H (L2.start N ws) (startE N.length ds) := S0.reT fun i n e => (startE_tk e).elim
  have eH : upd H p (.ins C dx []) = H := by
    funext c
    by_cases q : c = p
    · subst q; rw [upd_same, hp]
    · rw [upd_ne q]
  have SI0 : SI K ⟨A, H, F, fun cls d _ H' => E cls d H', C, p, dx, p⟩ F H (L2.start (a :: N) (.ref p :: ws)) (startI (a :: N).length ds) [] := by
    refine ⟨⟨[], ⟨rfl, .nil⟩, hp, ?_⟩, fp⟩
    show SR K A (Ix.T ⟨A, H, F, fun cls d _ H' => E cls d H', C, p, dx, p⟩) (upd H p (.ins C dx [])) F F H _ _
    rw [eH, start_cons]
    exact S1.consT (n := 0)
  split at hm
  · rename_i ρ fs hf
    split at hm
    · rename_i hn
      cases (Option.some.inj hm)
      refine ⟨F, _, [], _, SI0, hf, fun F' H' σ' fvs G hp' rf => ?_⟩
      have hz : names.zip (fvs.map (·.2)) = fvs := by rw [← hn, ← rf.1]; exact zip_self fvs
      exact w F' H' (fvs.map (·.2)) G (by rw [hz]; exact hp') (by rw [← hn, ← rf.1, List.length_map, List.length_map]) rf.2
    · cases hm
  · rename_i e hf
    cases (Option.some.inj hm)
    exact ⟨F, _, [], _, SI0, hf, fun F' H' σ' dd G q => w F' H' dd G q⟩
  · cases hm
/-- an __init__ by its body -/
theorem fnI {nm qual : Str} {st : Stmt} {f C : Addr} {fd : FuncData} {a : Str} {N ps names : List Str} {k na : Nat} {A : Ad} {body : Ro → Fs → Option IFl} (F : Fun K nm qual st f fd) (S : FnScope (a :: N) ps (defScope st)) (hna : ps.length = na + 1)
    (hb : ∀ (cdv : Value) (A' : Around) (outer : List Env) (s : Shared) (H : Hp) (E : XK) (y : Ix), y.A = A → y.C = C → y.F0 y.p = none → y.W = (fun cls d _ H' => E cls d H') → Room k (A'.deeper (envOfC qual (defScope st) s.heap.objs.size f cdv)) →
      PSs (cxOf (L2N.CX P w) P w K mg base (a :: N) qual (defScope st) f cdv A' outer s H E) (defBody st) (tIF K y body)) :
    FnOk P w K mg base (L2N.CX P w) (k + 1) f fd ps (spI K A C names na (runI names (a :: N).length body)) :=
  fun_ok F S (fun vs H Q E h => by rw [spI_len vs H Q E h, hna]) fun cdv A' outer s H vs Q E hr h => by
    obtain ⟨y, h1, h2, h3, h4, h5⟩ := run_init h
    exact ⟨_, hb cdv A' outer s H E y h1 h2 h3 h5 hr, h4⟩
/-- .. of which defaults are told -/
theorem fnID {nm qual : Str} {params : Arguments} {bd : List Stmt} {scope : Scope} {dvs : List V} {kws : List (Str × V)} {f C : Addr} {fd : FuncData} {a : Str} {N ps names : List Str} {k na : Nat} {A : Ad} {body : Ro → Fs → Option IFl} (F : FunD K nm qual params bd scope dvs kws f fd) (S : FnScope (a :: N) ps scope) (hna : ps.length = na + 1)
    (hb : ∀ (cdv : Value) (A' : Around) (outer : List Env) (s : Shared) (H : Hp) (E : XK) (y : Ix), y.A = A → y.C = C → y.F0 y.p = none → y.W = (fun cls d _ H' => E cls d H') → Room k (A'.deeper (envOfC qual scope s.heap.objs.size f cdv)) →
      PSs (cxOf (L2N.CX P w) P w K mg base (a :: N) qual scope f cdv A' outer s H E) bd (tIF K y body)) :
    FnOk P w K mg base (L2N.CX P w) (k + 1) f fd ps (spI K A C names na (runI names (a :: N).length body)) :=
  F.ok S (fun vs H Q E h => by rw [spI_len vs H Q E h, hna]) fun cdv A' outer s H vs Q E hr h => by
    obtain ⟨y, h1, h2, h3, h4, h5⟩ := run_init h
    exact ⟨_, hb cdv A' outer s H E y h1 h2 h3 h5 hr, h4⟩
end

/-! ### an __init__ to which a list is lent -/
def startIL (n : Nat) (ds : List D) : Ro := .tk 0 :: .tk 2 :: startE (n - 2) ds
def runIL (names : List Str) (n : Nat) (body : List D → Ro → Fs → Option IFl) (ls ds : List D) : EM (List D) := match body ls (startIL n ds) [] with
  | some (.nx _ fs) => if fs.map (·.1) = names then ok (fs.map (·.2)) else none
  | some (.ex e) => some (.error e)
  | none => none
/-- what it promises: the first argument is a list that it only reads -/
def spIL (K : PySem.W.Frag) (A : Ad) (C : Addr) (names : List Str) (na : Nat) (m : List D → List D → EM (List D)) : Sp := fun vs H Q E => ∃ (p q dx : Addr) (F : Hp) (xs ws : List V) (ls ds : List D) (r : Except Xn (List D)), vs = .ref p :: .ref q :: ws ∧ H p = some (.ins C dx []) ∧ F p = none ∧ H q = some (.lst xs) ∧ RepL K A F xs ls ∧ Ex F H ∧ RepL K A F ws ds ∧ ds.length = na ∧ m ls ds = some r ∧
  (match r with
    | .ok fs => ∀ F' H' fvs, GrowP p F H F' H' → H' p = some (.ins C dx (names.zip fvs)) → fvs.length = names.length → RepL K A F' fvs fs → Q .non H'
    | .error e => ∀ F' H' dd, GrowP p F H F' H' → XR H' e dd → E (.ref (A.xc e.cl)) dd H')
/-- the lent list -/
structure Lent (K : PySem.W.Frag) (y : Ix) (ls : List D) : Prop where
  ex : ∃ xs, y.B y.q = some (.lst xs) ∧ RepL K y.A y.F0 xs ls
  ne : y.q ≠ y.p
section
variable {P : Program} {w : World} {K : PySem.W.Frag} {mg : Str → Option Value} {base : Heap}
theorem spIL_len {A : Ad} {C : Addr} {names : List Str} {na : Nat} {m : List D → List D → EM (List D)} : ∀ vs H Q E, spIL K A C names na m vs H Q E → vs.length = na + 2 := fun vs H Q E ⟨p, q, dx, F, xs, ws, ls, ds, r, e, _, _, _, _, _, rl, hl, _⟩ => by
  rw [e, List.length_cons, List.length_cons, rl.length, hl]
theorem run_initL {A : Ad} {C : Addr} {names : List Str} {na : Nat} {a b : Str} {N : List Str} {vs : List V} {H : Hp} {Q : VK} {E : XK} {body : List D → Ro → Fs → Option IFl} (h : spIL K A C names na (runIL names (a :: b :: N).length body) vs H Q E) :
    ∃ (y : Ix) (ls : List D), y.A = A ∧ y.C = C ∧ y.F0 y.p = none ∧ Lent K y ls ∧ tIF K y (body ls) { nx := fun _ H' => Q .non H', rt := Q } (L2.start (a :: b :: N) vs) H ∧ y.W = fun cls d _ H' => E cls d H' := by
  obtain ⟨p, q, dx, F, xs, ws, ls, ds, r, rfl, hp, fp, hq, hx, ex, rl, hl, hm, w⟩ := h
  refine ⟨⟨A, H, F, fun cls d _ H' => E cls d H', C, p, dx, q⟩, ls, rfl, rfl, fp, ⟨⟨xs, hq, hx⟩, fun z => by rw [show q = p from z, hp] at hq; cases hq⟩, ?_, rfl⟩
  unfold runIL at hm
  have S0 : SR K A (fun _ => .non) H F F H (L2.start N ws) (startE N.length ds) := SR.begin ex rl
  have S1 : SR K A (Ix.T ⟨A, H, F, fun cls d _ H' => E cls d H', C, p, dx, q⟩) H F F H (L2.start N ws) (startE N.length ds) := S0.reT fun i n e => (startE_tk e).elim
  have eH : upd H p (.ins C dx []) = H := by
    funext c
    by_cases q : c = p
    · subst q; rw [upd_same, hp]
    · rw [upd_ne q]
  have SI0 : SI K ⟨A, H, F, fun cls d _ H' => E cls d H', C, p, dx, q⟩ F H (L2.start (a :: b :: N) (.ref p :: .ref q :: ws)) (startIL (a :: b :: N).length ds) [] := by
    refine ⟨⟨[], ⟨rfl, .nil⟩, hp, ?_⟩, fp⟩
    show SR K A (Ix.T ⟨A, H, F, fun cls d _ H' => E cls d H', C, p, dx, q⟩) (upd H p (.ins C dx [])) F F H _ _
    rw [eH, start_cons, start_cons]
    exact (S1.consT (n := 2)).consT (n := 0)
  split at hm
  · rename_i ρ fs hf
    split at hm
    · rename_i hn
      cases (Option.some.inj hm)
      refine ⟨F, _, [], _, SI0, hf, fun F' H' σ' fvs G hp' rf => ?_⟩
      have hz : names.zip (fvs.map (·.2)) = fvs := by rw [← hn, ← rf.1]; exact zip_self fvs
      exact w F' H' (fvs.map (·.2)) G (by rw [hz]; exact hp') (by rw [← hn, ← rf.1, List.length_map, List.length_map]) rf.2
    · cases hm
  · rename_i e hf
    cases (Option.some.inj hm)
    exact ⟨F, _, [], _, SI0, hf, fun F' H' σ' dd G q => w F' H' dd G q⟩
  · cases hm
theorem fnILD {nm qual : Str} {params : Arguments} {bd : List Stmt} {scope : Scope} {dvs : List V} {kws : List (Str × V)} {f C : Addr} {fd : FuncData} {a b : Str} {N ps names : List Str} {k na : Nat} {A : Ad} {body : List D → Ro → Fs → Option IFl} (F : FunD K nm qual params bd scope dvs kws f fd) (S : FnScope (a :: b :: N) ps scope) (hna : ps.length = na + 2)
    (hb : ∀ (cdv : Value) (A' : Around) (outer : List Env) (s : Shared) (H : Hp) (E : XK) (y : Ix) (ls : List D), y.A = A → y.C = C → y.F0 y.p = none → Lent K y ls → y.W = (fun cls d _ H' => E cls d H') → Room k (A'.deeper (envOfC qual scope s.heap.objs.size f cdv)) →
      PSs (cxOf (L2N.CX P w) P w K mg base (a :: b :: N) qual scope f cdv A' outer s H E) bd (tIF K y (body ls))) :
    FnOk P w K mg base (L2N.CX P w) (k + 1) f fd ps (spIL K A C names na (runIL names (a :: b :: N).length body)) :=
  F.ok S (fun vs H Q E h => by rw [spIL_len vs H Q E h, hna]) fun cdv A' outer s H vs Q E hr h => by
    obtain ⟨y, ls, h1, h2, h3, h4, h5, h6⟩ := run_initL h
    exact ⟨_, hb cdv A' outer s H E y ls h1 h2 h3 h4 h6 hr, h5⟩
end
/-- a lent list, read -/
def eLn (i : Nat) (ls : List D) : Ro → EM D := fun ρ => match ρ[i]? with
  | some (.tk 2) => ok (.lst ls)
  | _ => none
def iLn (i : Nat) (ls : List D) : Ro → EM (List D) := fun ρ => match ρ[i]? with
  | some (.tk 2) => ok ls
  | _ => none
section
variable {X : Cx} {x : Fx} {a : Expr} {i : Nat} {ls : List D}
structure LentX (K : PySem.W.Frag) (x : Fx) (ls : List D) : Prop where
  ex : ∃ l xs, x.T 2 = .ref l ∧ x.B l = some (.lst xs) ∧ RepL K x.A x.F0 xs ls
theorem Lent.fx {K : PySem.W.Frag} {y : Ix} {B' : Hp} (L : Lent K y ls) (h : BOk y B') : LentX K (y.fx B') ls := by
  obtain ⟨xs, h1, h2⟩ := L.ex
  exact ⟨y.q, xs, rfl, h _ _ L.ne h1, h2⟩
theorem Lent.fxN {K : PySem.W.Frag} {y : Ix} {l : Addr} {ks : List (Str × Int)} (L : Lent K y ls) (h : y.B l = none) : LentX K (y.fxN l ks) ls := by
  obtain ⟨xs, h1, h2⟩ := L.ex
  refine ⟨y.q, xs, rfl, ?_, h2⟩
  show upd _ l _ y.q = _
  rw [upd_ne (ne_of_none h1 h), upd_ne L.ne]
  exact h1
theorem pk_ln (L : LentX X.K x ls) (h : PE X a (tVar i)) : PE X a (tK X.K x .bw (eLn i ls)) := pe_wk h fun σ H Q ⟨F, ρ, r, S, e, w⟩ => by
  unfold eLn at e
  split at e
  · rename_i hi
    cases (Option.some.inj e)
    obtain ⟨l, xs, h1, h2, h3⟩ := L.ex
    exact ⟨.ref l, by rw [S.tk i 2 hi, h1], w F H _ (.refl S.fh) (.inr ⟨l, xs, ls, rfl, rfl, S.bh _ _ h2, h3.mono S.f0⟩)⟩
  · cases e
end
section
variable {X : Cx} {x : Fx} {a : Expr} {i : Nat} {ls : List D}
theorem pid_ln {tg : Expr} (L : LentX X.K x ls) (h : PE X a (tVar i)) : PI X tg a (tI X.K x (iLn i ls)) := pi_wk (pi_list h) fun σ H R ⟨F, ρ, r, S, e, w⟩ => by
  unfold iLn at e
  split at e
  · rename_i hi
    cases (Option.some.inj e)
    obtain ⟨l, xs, h1, h2, h3⟩ := L.ex
    have r1 := h3.mono S.f0
    refine ⟨.ref l, by rw [S.tk i 2 hi, h1], l, rfl, ⟨_, .of (S.bh _ _ h2)⟩, w F H _ (fun c => if c = l then some (.lst xs) else none) (.refl S.fh) (fun c o hc => ?_) (fun c o hc => ?_) ⟨fun j d H2 e1 e2 hd => ?_, fun j H2 e1 e2 hj => ?_, fun j d F2 H2 v H3 e1 e2 e3 hd hy => ?_⟩⟩
    · dsimp only at hc
      by_cases q : c = l
      · subst q; rw [if_pos rfl] at hc; rw [← hc]; exact h2
      · rw [if_neg q] at hc; cases hc
    · dsimp only at hc
      by_cases q : c = l
      · rw [if_pos q] at hc; cases hc; exact ⟨xs, rfl⟩
      · rw [if_neg q] at hc; cases hc
    · obtain ⟨v, g1, _⟩ := r1.get hd
      exact ⟨xs, v, .of (e2 l _ (if_pos rfl)), g1⟩
    · exact ⟨xs, .of (e2 l _ (if_pos rfl)), by rw [r1.length]; exact hj⟩
    · obtain ⟨e, hy⟩ := hy
      subst e
      obtain ⟨u, g1, g2⟩ := r1.get hd
      have := hy xs (.of (e3 l _ (if_pos rfl)))
      rw [g1] at this
      cases (Option.some.inj this)
      exact ⟨F2, .refl e2, g2.mono e1⟩
  · cases e
end
/-! ### Pot.__init__(self, ..) -/
section
variable {X : Cx} {CX : CXT} {k : Nat} {f C : Addr} {fd : FuncData} {ps : List Str} {sp : Sp} {E : L2.St → XK} {n m : Str} {p pos apos : Pos} {e o : Expr} {es : List Expr} {t : TA} {mc : Value}
theorem pe_clsG {pl : Sem Bool} (he : PE X o (fun _ H Q => Q (.ref C) H)) (r : ClX.CRead X.K C mc) (c : ClX.CVal X.K C mc m (.ref f) (.ref f)) (hk : PySem.W.keepIn X.K (.ref f) = true) (F : FnOk X.prog X.w X.K X.mg X.base CX k f fd ps sp) (hr : Room k X.A) (hb : Binds X.K fd ps []) (hx : ∀ σ, PassesAt CX X σ (E σ)) (ha : PA X (e :: es) t)
    (hst : starEach (e :: es) X.env = (false, eval e X.env) :: starEach es X.env := by rfl) (hpl : (backTo pos (starEach es X.env)).any (·.1) = false := by rfl)
    (ht : eval (.Call (.Attribute o m apos) (e :: es) [] pos) X.env = (do
      let ov ← eval o X.env
      standAt apos.atName
      let (f, first) ← holding [ov] (getMethod ov m pl)
      callWith pos f first (backTo pos (starEach (e :: es) X.env)) (backToKw pos (keywordEach [] X.env))) := by rfl) :
    PE X (.Call (.Attribute o m apos) (e :: es) [] pos) (tCallG sp [] E t) := by
  refine ⟨fun pins s σ H Q I h => ?_⟩
  refine PySem.W.methodCall_KW (pl := pl) (thn (he.run pins s σ H (fun x H1 => x = .ref C ∧ H1 = H) I ⟨rfl, rfl⟩) fun u s1 ⟨x, H1, I1, rx, ex, eH⟩ => ?_) ht
  subst ex eH
  obtain rfl : u = Value.ref C := rx
  refine PySem.W.method_cls I1.kIn r.ga (ClX.getcval_ok I1 r c fun s2 I2 => ?_)
  refine PySem.W.callWith_K (first := []) (h₀ := X.base) I2.ok.mod.kin hk (thn (ha.run pos pins s2 σ H1 _ I2 h) fun us s3 ⟨vs, H2, I3, rv, q2⟩ => ⟨I3.kIn, ?_⟩) hst hpl
  exact run_fnG F hr hb .nil (hx σ) I3 rv q2
end

/-! ### the dict of names -/
def dNinO (d e : D) : EM D := match d, e with
  | .str s, .ord ks => ok (.bl (!hasN ks s))
  | _, _ => none
def dGetO (d e : D) : EM D := match d, e with
  | .ord ks, .str s => match ks.find? (fun k => decide (k.1 = s)) with
    | some k => ok (.int k.2)
    | none => none
  | _, _ => none
theorem ord_get {ks : List (Str × Int)} {s : Str} {k : Str × Int} (h : ks.find? (fun k => decide (k.1 = s)) = some k) : valV (ordK ks) (Sum.inr s) = some (.int k.2) := by
  unfold valV ordK
  induction ks with
  | nil => cases h
  | cons a ks ih =>
    rw [List.map_cons, List.find?_cons]
    rw [List.find?_cons] at h
    by_cases q : a.1 = s
    · rw [decide_eq_true q] at h
      cases h
      rw [decide_eq_true (by rw [q])]
      rfl
    · rw [decide_eq_false q] at h
      rw [decide_eq_false (fun z => q (Sum.inr.inj z))]
      exact ih h
section
variable {X : Cx} {x : Fx} {f g : Ro → EM D} {a b : Expr} {pos : Pos}
def rNinD : R2 := fun y v H Q => ∃ a o, v = .ref a ∧ DGet H a y o ∧ Q (.bl (!o.isSome)) H
theorem op_ninD (hu : X.A.units + 1 < PySem.cLine) : OpR X (compareOp .NotIn) rNinD := by
  intro pins s σ H y v u w Q I ry rv ⟨a, o, ev, g, q⟩
  subst ev
  obtain rfl : w = Value.ref a := rv
  exact d_notIn hu I g ry fun s' I' => ⟨.bl (!o.isSome), H, I', rfl, q⟩
theorem op2_ninO {k : Kd} (hk : k ≠ .ow) : Op2 X.K x k rNinD dNinO := fun F H σ v u d e q Q ex rv ru hq w => by
  unfold dNinO at hq
  split at hq
  · rename_i s ks
    cases (Option.some.inj hq)
    cases rk_str rv
    cases (RK.rep ru fun _ z => by cases z) with
    | ord h =>
      refine ⟨_, _, rfl, DGet.k (k := Sum.inr s) (ex _ _ h), ?_⟩
      rw [ord_val]
      exact w F H _ (.refl ex) (by
        cases k with
        | bw => exact .inl (.bl _)
        | fz => exact .bl _
        | ow => exact absurd rfl hk)
  · cases hq
theorem nox_ninO : NoX dNinO := fun d e y h => by
  unfold dNinO at h
  split at h <;> cases h
theorem pk_ninO (hu : X.A.units + 65 < PySem.cLine) (hm : behindInMarks .NotIn b = false) (ha : PE X a (tK X.K x .bw f)) (hb : PE X b (tK X.K x .bw g)) : PE X (.Compare a [.NotIn] [b] pos) (tK X.K x .fz (eOp dNinO f g)) := pk_cmp (op_ninD (by omega)) (op2_ninO (by decide)) nox_ninO hm ha hb
theorem pt_ninO (hu : X.A.units + 65 < PySem.cLine) (hm : behindInMarks .NotIn b = false) (ha : PE X a (tK X.K x .bw f)) (hb : PE X b (tK X.K x .bw g)) : PT X (.Compare a [.NotIn] [b] pos) (tT X.K x (bT (eOp dNinO f g))) := pt_c (op_ninD (by omega)) (op2_ninO (by decide)) nox_ninO hm ha hb
theorem pk_getO (hu : X.A.units + 65 < PySem.cLine) (hs : NoSl b) (ha : PE X a (tK X.K x .bw f)) (hb : PE X b (tK X.K x .bw g)) : PE X (.Subscript a b pos) (tK X.K x .fz (eOp dGetO f g)) := pe_wk (pe_dget (by omega) ha hb hs) fun σ H Q ⟨F, ρ, r, S, e, w⟩ =>
  tk_step S e w.x fun d F1 H1 v1 G1 S1 r1 e1 => tk_step S1 e1 (fun y hy => Wx.grow (K := X.K) G1 (w.x y hy)) fun d2 F2 H2 v2 G2 S2 r2 e2 => by
    unfold dGetO at e2
    split at e2
    · rename_i ks s
      split at e2
      · rename_i k hk
        cases (Option.some.inj e2)
        cases rk_str r2
        cases (RK.rep r1 fun _ z => by cases z) with
        | ord h => exact ⟨_, _, rfl, .inl ⟨_, Sum.inr s, .inl (S2.fh _ _ (G2.f _ _ h)), rfl, (ord_get hk).symm⟩, w F2 H2 _ (G1.trans G2) (.int _)⟩
      · cases e2
    · cases e2
end
end Tw
/-! TwM: tables of built-in types, small helps for the printed texts. -/
namespace Tw
open PySem PySem.Spec PyProof.Rows L2
theorem takes0 {X : Cx} {x : Fx} : L2N.Takes X x.nox.W := fun u s' ⟨_, _, _, _, _, _, _, _, _, _, _, _, _, _, _, _, w⟩ => w.elim
def tab_int : Tag → Option Bool
  | .int => some true
  | .bl => some true
  | .obj _ => none
  | _ => some false
def tab_bool : Tag → Option Bool
  | .bl => some true
  | .obj _ => none
  | _ => some false
def tab_str : Tag → Option Bool
  | .str => some true
  | .obj _ => none
  | _ => some false
def tab_tuple : Tag → Option Bool
  | .tup => some true
  | .obj _ => none
  | _ => some false
def tab_list : Tag → Option Bool
  | .lst => some true
  | .obj _ => none
  | _ => some false
section
variable {K : PySem.W.Frag} {A : Ad}
theorem is_int : IsTab K A (.type "int") tab_int := fun t b h _ => by
  cases t <;> first | (cases h; done) | (cases (Option.some.inj h); kernel_rfl)
theorem is_bool : IsTab K A (.type "bool") tab_bool := fun t b h _ => by
  cases t <;> first | (cases h; done) | (cases (Option.some.inj h); kernel_rfl)
theorem is_str : IsTab K A (.type "str") tab_str := fun t b h _ => by
  cases t <;> first | (cases h; done) | (cases (Option.some.inj h); kernel_rfl)
theorem is_tuple : IsTab K A (.type "tuple") tab_tuple := fun t b h _ => by
  cases t <;> first | (cases h; done) | (cases (Option.some.inj h); kernel_rfl)
theorem is_list : IsTab K A (.type "list") tab_list := fun t b h _ => by
  cases t <;> first | (cases h; done) | (cases (Option.some.inj h); kernel_rfl)
end
theorem hu65 {A : Around} {k : Nat} (r : Room k A) : A.units + 65 < PySem.cLine := by have := r.un; omega
theorem hu1 {A : Around} {k : Nat} (r : Room k A) : A.units + 1 < PySem.cLine := by have := r.un; omega
theorem op2_mulI {X : Cx} {x : Fx} : Op2 X.K x .fz (rI CMul fun i j => .int (i * j)) dMul := op2_I (fun i j h => by
  unfold cMul at h
  simp only [Bool.or_eq_true, Bool.and_eq_true, decide_eq_true_eq] at h
  exact h)
/-- C.__init__(self, ..), the super class told by its name -/
structure Sup (P : Program) (w : World) (K : PySem.W.Frag) (mg : Str → Option Value) (base : Heap) (A : Ad) (k : Nat) (nm : Str) (C : Addr) (c0 : Cl) (na : Nat) (mi : List D → EM (List D)) : Prop where
  ex : ∃ f fd ps k' mc, k' ≤ k ∧ mg nm = some (.ref (A.cl c0)) ∧ ClX.CRead K (A.cl c0) mc ∧ ClX.CVal K (A.cl c0) mc "__init__" (.ref f) (.ref f) ∧ PySem.W.keepIn K (.ref f) = true ∧ FnOk P w K mg base (L2N.CX P w) k' f fd ps (spI K A C c0.names na mi) ∧ Binds K fd ps []
theorem pis_sup {X : Cx} {y : Ix} {kk na : Nat} {n : Str} {c0 : Cl} {mi : List D → EM (List D)} {fa : Ro → EM (List D)} {e0 : Expr} {es : List Expr} {p1 apos pos pos2 : Pos} {pl : Sem Bool} (h0 : y.F0 y.p = none) (Sp : Sup X.prog X.w X.K X.mg X.base y.A kk n y.C c0 na mi) (tk : L2N.Takes X y.W) (hr : Room kk X.A) (hself : PE X e0 (tVar 0)) (ha : ∀ B', BOk y B' → PA X es (tA X.K (y.fx B') .fz fa))
    (hg : Gl X n := by rfl) (hdb : (n == ("__debug__" : Str)) = false := by decide)
    (hst : starEach (e0 :: es) X.env = (false, eval e0 X.env) :: starEach es X.env := by rfl) (hpl : (backTo pos (starEach es X.env)).any (·.1) = false := by rfl)
    (ht : eval (.Call (.Attribute (.Name n p1) "__init__" apos) (e0 :: es) [] pos) X.env = (do
      let ov ← eval (.Name n p1) X.env
      standAt apos.atName
      let (f, first) ← holding [ov] (getMethod ov "__init__" pl)
      callWith pos f first (backTo pos (starEach (e0 :: es) X.env)) (backToKw pos (keywordEach [] X.env))) := by rfl) :
    PS X (.Expr (.Call (.Attribute (.Name n p1) "__init__" apos) (e0 :: es) [] pos) pos2) (tIS X.K y (iCal c0.names na mi fa)) := by
  obtain ⟨f, fd, ps, k', mc, hk, hm, r, c, hkp, Fn, hb⟩ := Sp.ex
  exact pis_cal h0 (fun t h => ps_expr (pe_clsG (pl := pl) (pe_glob hg hm rfl hdb) r c hkp Fn (hr.mono hk) hb (E := WE y.W) (fun σ => L2N.passAt tk σ) (pa_cons hself h hst) hst hpl ht)) ha
/-- a class that is called by its name with a list of one's own, which it only reads -/
structure MakL (P : Program) (w : World) (K : PySem.W.Frag) (mg : Str → Option Value) (base : Heap) (A : Ad) (k : Nat) (nm : Str) (na : Nat) (c : Cl) (mi : List D → List D → EM (List D)) (dds : List D) : Prop where
  ex : ∃ f fd ps ds dvs k', k' + 1 ≤ k ∧ A.has c = true ∧ Mk K (A.cl c) f ∧ FnOk P w K mg base (L2N.CX P w) k' f fd ps (spIL K A (A.cl c) c.names na mi) ∧ mg nm = some (.ref (A.cl c)) ∧ Binds K fd ps ds ∧ Vals dvs ds ∧ ∀ F, RepL K A F dvs dds
def eMakeL (i na : Nat) (mi : List D → List D → EM (List D)) (c : Cl) (dds : List D) (fs : Ro → EM (List D)) : Ro → EM D := fun ρ => match ρ[i]? with
  | some (.ow ls) => bnd (fs ρ) fun ds => dDef na dds (fun cs => dMake (mi ls) c cs) ds
  | _ => none
theorem pk_mkL {X : Cx} {x : Fx} {n : Str} {kk na i : Nat} {c : Cl} {mi : List D → List D → EM (List D)} {dds : List D} {e : Expr} {es : List Expr} {p pos : Pos} {fs : Ro → EM (List D)} (C : MakL X.prog X.w X.K X.mg X.base x.A kk n na c mi dds) (tk : L2N.Takes X x.W) (hr : Room kk X.A) (h0 : PE X e (tVar i)) (ha : PA X es (tA X.K x .fz fs)) (hg : Gl X n := by rfl) (hdb : (n == ("__debug__" : Str)) = false := by decide)
    (he : starEach (e :: es) X.env = (false, eval e X.env) :: starEach es X.env := by rfl) (hpl : (backTo pos (starEach es X.env)).any (·.1) = false := by rfl) : PE X (.Call (.Name n p) (e :: es) [] pos) (tK X.K x .fz (eMakeL i na mi c dds fs)) := by
  obtain ⟨f, fd, ps, dsv, dvs, k', hk, hc, hM, Fn, hm, hb, hd, hdd⟩ := C.ex
  refine pe_wk (pe_makeG hM Fn (hr.mono hk) hg hm hb hd (E := WE x.W) (fun σ => L2N.passAt tk σ) (pa_cons h0 ha he) hdb he hpl) fun σ H Q ⟨F, ρ, r, S, e, w⟩ => ?_
  unfold eMakeL at e
  split at e
  rotate_left
  · cases e
  rename_i ls hi
  obtain ⟨l, xs, o1, o2, o3, o4, o5⟩ := S.ow i ls hi
  refine ⟨.ref l, o1, ta_step S e w.x fun cs F1 H1 vs G1 S1 r1 e1 => ?_⟩
  obtain ⟨hl, e2⟩ := dDef_some e1
  intro x' dx hx hdx hne
  unfold dMake at e2
  have fresh : F1 x' = none := S1.fh.free hx
  have old : ∀ a o, H1 a = some o → a ≠ x' ∧ upd (upd H1 dx (.own x')) x' (.ins (x.A.cl c) dx []) a = some o := fun a o ha => ⟨ne_of_none ha hx, by
    rw [upd_ne (ne_of_none ha hx), upd_ne (ne_of_none ha hdx)]
    exact ha⟩
  have ex : Ex F1 (upd (upd H1 dx (.own x')) x' (.ins (x.A.cl c) dx [])) := fun a o ha => (old a o (S1.fh a o ha)).2
  have hl1 := G1.h l _ o4
  cases em : mi ls (cs ++ dds) with
  | none => rw [em] at e2; cases e2
  | some q =>
    rw [em] at e2
    refine ⟨x', l, dx, F1, xs, _, ls, cs ++ dds, q, rfl, upd_same, fresh, (old l _ hl1).2, o5.mono G1.f, ex, r1.repL.app (hdd _), hl, em, ?_⟩
    cases q with
    | error y =>
      cases (Option.some.inj e2)
      exact fun F' H' dd G r => (w : Wx X.K x F H σ y).grow (K := X.K) G1 F' H' dd ⟨G.f, fun a o ha => G.h a o (old a o ha).1 (old a o ha).2, G.i, fun a o ha => G.n a o (old a o ha).1 (old a o ha).2⟩ r
    | ok fs' =>
      cases (Option.some.inj e2)
      intro F' H' fvs G hp hlen rf
      have exF : Ex F' (upd F' x' (.ins (x.A.cl c) dx (c.names.zip fvs))) := fun a o ha => by
        by_cases q : a = x'
        · subst q
          have := G.i a o ha
          rw [hp] at this
          rw [upd_same]
          exact this
        · rw [upd_ne q]; exact ha
      refine ⟨rfl, (w.grow G1) (upd F' x' (.ins (x.A.cl c) dx (c.names.zip fvs))) H' (.ref x') ⟨G.f.trans exF, fun a o ha => G.h a o (old a o ha).1 (old a o ha).2, fun a o ha => ?_, fun a o ha => ?_⟩ (Rep.obj hc upd_same hlen (rf.mono exF))⟩
      · by_cases q : a = x'
        · subst q; rw [upd_same] at ha; rw [← ha]; exact hp
        · rw [upd_ne q] at ha; exact G.i a o ha
      · rw [upd_ne (old a o ha).1]
        exact G.n a o (old a o ha).1 (old a o ha).2
end Tw
/-! TwN: a caught refusal: try .. except X as n, defs that take it, isinstance of it. -/
namespace Tw
open PySem PySem.Spec PyProof.Rows L2
open L2H (RoomH Hot1 PinOk cxH inv_startH)
/-- a stands for the refusal y that is handled -/
structure HotE (A : Ad) (X : Cx) (a : Addr) (y : Xn) (d : Option Addr) : Prop where
  ex : ∃ oe : Obj, Hot1 X.A (a, oe) ∧ (a, oe) ∈ X.pn ∧ L2N.Zn (.ref (A.xc y.cl)) d oe ∧ ∃ vs, oe.data = .fields vs
/-- a def of one argument, the handled refusal -/
structure FnE (P : Program) (w : World) (K : PySem.W.Frag) (mg : Str → Option Value) (base : Heap) (A : Ad) (k : Nat) (f : Addr) (fd : FuncData) (ps : List Str) (m : Xn → Option Out) : Prop where
  len : ps.length = 1
  run : ∀ (R : Around) (outer : List Env) (s : Shared) (H F : Hp) (args : Args) (Q : VK) (E : XK) (p : Addr × Obj) (y : Xn) (d : Option Addr) (o : Out), RoomH k R → Hot1 R p → PinOk outer H s p → L2N.Zn (.ref (A.xc y.cl)) d p.2 → (∃ vs, p.2.data = .fields vs) →
    Env0 P w K mg base R outer s H → BindsTo s fd args (ps.zip [.ref p.1]) → Ex F H → XR H y d → m y = some o → WdO K A o F H Q E → codeAny (model P w) R (.call (.ref f) args) (CR (L2N.CX P w) outer P w H s Q E) s
def fxE (A : Ad) (a : Addr) (H F : Hp) (E : XK) : Fx := ⟨A, fun _ => .ref a, H, F, fun cls d _ H' => E cls d H'⟩
def runE (n : Nat) (body : Xn → Ro → Option Fl) (y : Xn) : Option Out := outOf (body y (.tk 0 :: startE (n - 1) []))
theorem SR.out1 {K : PySem.W.Frag} {A : Ad} {T : Nat → V} {F H : Hp} {N : List Str} {x0 : Str} {a : Addr} (e : Ex F H) (hT : T 0 = .ref a) : SR K A T H F F H (L2.start (x0 :: N) [.ref a]) (.tk 0 :: startE N.length []) := by
  have S0 : SR K A (fun _ => .non) H F F H (L2.start N []) (startE N.length []) := SR.begin e .nil
  have S1 : SR K A T H F F H (L2.start N []) (startE N.length []) := S0.reT fun i n q => (startE_tk q).elim
  have S2 := S1.consT (n := 0)
  rw [hT] at S2
  rw [start_cons]
  exact S2
theorem run_bodyE {K : PySem.W.Frag} {A : Ad} {x0 : Str} {N : List Str} {a : Addr} {H F : Hp} {Q : VK} {E : XK} {o : Out} {y : Xn} {body : Xn → Ro → Option Fl} (e : Ex F H) (hm : runE (x0 :: N).length body y = some o) (w : WdO K A o F H Q E) :
    tS K (fxE A a H F E) (body y) { nx := fun _ H' => Q .non H', rt := Q } (L2.start (x0 :: N) [.ref a]) H := by
  unfold runE outOf at hm
  have S0 : SR K A (fxE A a H F E).T H F F H (L2.start (x0 :: N) [.ref a]) (.tk 0 :: startE N.length []) := SR.out1 e rfl
  refine ⟨F, .tk 0 :: startE N.length [], ?_⟩
  have eN : (x0 :: N).length - 1 = N.length := rfl
  rw [eN] at hm
  split at hm
  · rename_i ρ hf
    cases (Option.some.inj hm)
    exact ⟨_, S0, hf, fun F' H' σ' G S => w F' H' .non S.out .non⟩
  · rename_i d hf
    cases (Option.some.inj hm)
    exact ⟨_, S0, hf, w⟩
  · rename_i d hf
    cases (Option.some.inj hm)
    exact ⟨_, S0, hf, w⟩
  · rename_i z ρ hf
    cases (Option.some.inj hm)
    exact ⟨_, S0, hf, fun F' H' σ' G S dd q => w F' H' dd S.out q⟩
  · cases hm
section
variable {P : Program} {w : World} {K : PySem.W.Frag} {mg : Str → Option Value} {base : Heap}
theorem fnE {nm qual x0 : Str} {st : Stmt} {f : Addr} {fd : FuncData} {N ps : List Str} {k : Nat} {A : Ad} {body : Xn → Ro → Option Fl} (Fu : Fun K nm qual st f fd) (S : FnScope (x0 :: N) ps (defScope st)) (hps : ps.length = 1)
    (hb : ∀ (cdv : Value) (R : Around) (outer : List Env) (s : Shared) (H F0 : Hp) (E : XK) (p : Addr × Obj) (y : Xn) (d : Option Addr), RoomH k (R.deeper (envOfC qual (defScope st) s.heap.objs.size f cdv)) → XR H y d →
      HotE A (cxH (L2N.CX P w) P w K mg base (x0 :: N) qual (defScope st) f cdv R outer s H E p) p.1 y d →
      PSs (cxH (L2N.CX P w) P w K mg base (x0 :: N) qual (defScope st) f cdv R outer s H E p) (defBody st) (tS K (fxE A p.1 H F0 E) (body y))) :
    FnE P w K mg base A (k + 1) f fd ps (runE (x0 :: N).length body) := by
  obtain ⟨oc, od, kV, doc, pm, an, cdv, ct, osl, rfl, hlk, hcd⟩ := Fu.ex
  refine ⟨hps, fun R outer s H F0 args Q E p y d o room hot pin zn flds env binds ex xr hm wd => ?_⟩
  have kin : K.In s.heap := env.mod.kin.keeps fun b ob q => (env.bs b ob q).1
  have nolim : s.heap.NoLimit := env.mod.nolimit.keeps fun b ob q => (env.bs b ob q).1
  have kinds : ∀ z ∈ ps.zip [Value.ref p.1], (defScope st).names.lookup z.1 = some .local ∨
      ((defScope st).names.lookup z.1 = some .cell ∧ ((cellsFrom (s.heap.objs.size + 1) (defScope st).names []).lookup z.1).isSome = true) := by
    rintro ⟨n, v⟩ hz
    exact (S.par n (List.of_mem_zip hz).1).imp id fun q => ⟨q, PySem.W.cellsFrom_some _ _ _ (.inl q)⟩
  refine codeAny_call_function room.depth (kin _ _ hlk) rfl S.co S.gen rfl (PySem.W.codeRec_of kin hcd) (binds _ _ _ _ (wpAny_newFunctionEnv_cells S.kind kinds ?_))
  rintro env1 rfl s1 made
  have body1 := hb cdv R outer s H F0 E p y d (room.deeper _) xr ⟨p.2, hot, List.mem_cons_self, zn, flds⟩
  have inv1 : Inv (cxH (L2N.CX P w) P w K mg base (x0 :: N) qual (defScope st) f cdv R outer s H E p) [] (L2.start (x0 :: N) [.ref p.1]) H s1 := inv_startH S pin env (by rw [hps]; rfl) (.cons rfl .nil) made
  refine ⟨nolim.keeps made.toInCall.keep, codeAny_func (wpAny_mono (body1.run [] s1 _ H _ inv1 (run_bodyE ex hm wd)) ?_ fun _ _ z => z)⟩
  intro fl s2 hs
  cases fl with
  | next => obtain ⟨_, H2, J, q⟩ := hs; exact ⟨.non, H2, J.os, J.bare, J.base, J.hok, rfl, q⟩
  | ret u => obtain ⟨v, _, H2, J, rv, q⟩ := hs; exact ⟨v, H2, J.os, J.bare, J.base, J.hok, rv, q⟩
  | brk => obtain ⟨_, _, _, q⟩ := hs; exact q.elim
  | cont => obtain ⟨_, _, _, q⟩ := hs; exact q.elim
end
/-- a def of the refusal, called by its name -/
structure CalE (P : Program) (w : World) (K : PySem.W.Frag) (mg : Str → Option Value) (base : Heap) (A : Ad) (k : Nat) (nm : Str) (m : Xn → Option Out) : Prop where
  ex : ∃ f fd ps k', k' ≤ k ∧ FnE P w K mg base A k' f fd ps m ∧ mg nm = some (.ref f) ∧ PySem.W.keepIn K (.ref f) = true ∧ Binds K fd ps []
def eTk (i : Nat) (r : EM D) : Ro → EM D := fun ρ => if isTk ρ[i]? = true then r else none
section
variable {X : Cx} {x : Fx} {a : Addr} {y : Xn} {d : Option Addr} {e : Expr} {n : Str} {p pos : Pos} {i kk : Nat} {m : Xn → Option Out}
theorem pk_callE (C : CalE X.prog X.w X.K X.mg X.base x.A kk n m) (hot : HotE x.A X a y d) (hT : ∀ j, x.T j = .ref a) (hB : XR x.B y d) (tk : L2N.Takes X x.W) (hr : RoomH kk X.A) (he : PE X e (tVar i)) (hg : Gl X n := by rfl) (hdb : (n == ("__debug__" : Str)) = false := by decide)
    (hst : starEach [e] X.env = (false, eval e X.env) :: starEach [] X.env := by rfl) (hpl : (backTo pos (starEach [] X.env)).any (·.1) = false := by rfl) :
    PE X (.Call (.Name n p) [e] [] pos) (tK X.K x .fz (eTk i (dCall (fun _ => m y) []))) := by
  obtain ⟨f, fd, ps, k', hk, Fn, hm, hkp, hb⟩ := C.ex
  refine ⟨fun pins s σ H Q I h => ?_⟩
  obtain ⟨F, ρ, r, S, ee, w⟩ := h
  unfold eTk at ee
  by_cases hi : isTk ρ[i]? = true
  rotate_left
  · rw [if_neg hi] at ee; cases ee
  rw [if_pos hi] at ee
  obtain ⟨j, hj⟩ := isTk_ex hi
  have hv : σ[i]? = some (some (.ref a)) := by rw [S.tk i j hj, hT j]
  refine wpAny_Call_Name_kw (ld_glob I hg hm ?_ hdb)
  refine PySem.W.callWith_K (h₀ := X.base) I.ok.mod.kin hkp (thn ((pa_cons (te := tVar i) he pa_nil hst).run pos pins s σ H (fun vs H1 => vs = [.ref a] ∧ H1 = H) I ⟨.ref a, hv, rfl, rfl⟩) fun us s1 ⟨vs, H1, I1, rv, e1, e2⟩ => ⟨I1.kIn, ?_⟩) hst hpl
  subst e1 e2
  obtain ⟨u, rfl, ru⟩ := vals1 rv
  cases ru
  obtain ⟨oe, h1, h2, h3, h4⟩ := hot.ex
  have P1 := I1.pin (a, oe) (List.mem_append_left _ h2)
  have pin : PinOk X.stack H1 s1 (a, oe) := ⟨P1.1, P1.2.1, fun hm => (List.mem_cons.mp (I1.stkSub a hm)).elim P1.2.2.1 P1.2.2.2.1, P1.2.2.2.2⟩
  have bt := hb s1 [.ref a] I1.kIn (by rw [List.append_nil]; exact Fn.len.symm)
  rw [List.append_nil] at bt
  have xrH : XR H1 y d := by
    revert hB
    unfold XR
    cases y <;> first | exact fun q => q | exact fun ⟨dd, q1, q2⟩ => ⟨dd, q1, S.bh _ _ q2⟩
  unfold dCall at ee
  have rk : RoomH k' X.A := hr.mono hk
  cases em : m y with
  | none => rw [em] at ee; cases ee
  | some o =>
    rw [em] at ee
    have wd : WdO X.K x.A o F H1 Q (WE x.W σ) := by
      cases o with
      | ret dd =>
        cases (Option.some.inj ee)
        exact fun F' H' v G r => w F' H' v G r
      | reto ds' =>
        cases (Option.some.inj ee)
        intro F' H' l ws G e0 e5 e3 e4
        have ex' : Ex F' (upd F' l (.lst ws)) := .new e5
        refine w (upd F' l (.lst ws)) H' (.ref l) ⟨G.f.trans ex', G.h, fun c o hc => ?_, fun c o hc => ?_⟩ (Rep.lst upd_same (e4.mono ex'))
        · by_cases q : c = l
          · subst q; rw [upd_same] at hc; rw [← hc]; exact e3
          · rw [upd_ne q] at hc; exact G.i c o hc
        · rw [upd_ne (ne_of_none hc e0)]
          exact G.n c o hc
      | exc z =>
        cases (Option.some.inj ee)
        exact fun F' H' dd G r => w F' H' dd G r
    refine wpAny_call (codeAny_mono (Fn.run X.A X.stack s1 H1 F ⟨[.ref a], []⟩ Q (WE x.W σ) (a, oe) y d o rk h1 pin h3 h4 I1.env0 bt S.fh xrH em wd) fun r s2 hq => ?_)
    cases r with
    | error z => exact L2N.passAt tk σ pins H1 s1 z s2 I1 hq
    | ok fl =>
      cases fl with
      | ret u => exact I1.after hq
      | next => exact hq.elim
      | brk => exact hq.elim
      | cont => exact hq.elim
/-- isinstance(n, C) of the handled refusal -/
theorem pk_isE {c : Expr} {cv : V} {u : Value} {b : Bool} (C : ExcC X.K (x.A.xc y.cl)) (hot : HotE x.A X a y none) (hT : ∀ j, x.T j = .ref a) (cu : ∀ z, RelV cv z → z = u) (kb : PySem.W.kitOne X.K (.ref (x.A.xc y.cl)) u = some b) (hm : X.mg "isinstance" = none) (hg : Gl X "isinstance") (hc : PE X c (tC cv)) (he : PE X e (tVar i))
    (hs : starEach [e, c] X.env = (false, eval e X.env) :: starEach [c] X.env := by rfl) (hs2 : starEach [c] X.env = (false, eval c X.env) :: starEach [] X.env := by rfl) (hpl : (backTo pos (starEach [c] X.env)).any (·.1) = false := by rfl) :
    PE X (.Call (.Name "isinstance" p) [e, c] [] pos) (tK X.K x .fz (eTk i (ok (.bl b)))) := by
  have call : CallR X (.builtin "isinstance") (fun xs H Q => xs = [.ref a, cv] ∧ Q (.bl b) H) := by
    rintro pins s σ H xs us Q I r ⟨rfl, q⟩
    obtain ⟨u1, u2, rfl, r1, r2⟩ := vals2 r
    cases r1
    cases (cu _ r2)
    obtain ⟨oe, h1, h2, h3, vs, hv⟩ := hot.ex
    have P1 := I.pin (a, oe) (List.mem_append_left _ h2)
    have J : PySem.W.InstAt s.heap a oe (x.A.xc y.cl) none := by
      obtain ⟨oc, od, oda, osl⟩ := oe
      obtain ⟨z1, z2, _⟩ := h3
      dsimp only at z1 z2 hv
      subst z1 z2 hv
      exact ⟨P1.1, rfl, rfl, trivial⟩
    exact PySem.W.kia_one (PySem.W.handS_kitx_exc C.hg C.hk C.hs C.hd C.ha C.hn C.ht C.hm) I.kIn J kb (fun z => nomatch z) fun t1 => ⟨.bl b, H, I.kept (t' := t1) fun _ _ z => z, rfl, q⟩
  refine pe_wk (pe_callB call hg hm (by decide +kernel) (pa_cons he (pa_cons hc pa_nil hs2) hs) (he := hs) (hpl := hpl)) fun σ H Q ⟨F, ρ, r, S, ee, w⟩ => ?_
  unfold eTk at ee
  by_cases hi : isTk ρ[i]? = true
  rotate_left
  · rw [if_neg hi] at ee; cases ee
  rw [if_pos hi] at ee
  cases (Option.some.inj ee)
  obtain ⟨j, hj⟩ := isTk_ex hi
  exact ⟨.ref a, by rw [S.tk i j hj, hT j], rfl, w F H _ (.refl S.fh) (.bl b)⟩
end
end Tw
/-! TwO: try .. except X as n, except X; more of lists. -/
namespace Tw
open PySem PySem.Spec PyProof.Rows L2
open L2H (RoomH Hot1)
def noTk (ρ : Ro) : Bool := ρ.all fun e => match e with
  | .tk _ => false
  | _ => true
theorem noTk_of {ρ : Ro} (h : noTk ρ = true) {j n : Nat} (e : ρ[j]? = some (.tk n)) : False := by
  have := List.all_eq_true.mp h _ (List.mem_of_getElem? e)
  simp at this
open Classical in
/-- all that stands, but the lists of one's own -/
noncomputable def subB (H : Hp) (σ : L2.St) (ρ : Ro) : Hp := fun c => if ∃ (j : Nat) (ds : List D), ρ[j]? = some (.ow ds) ∧ σ[j]? = some (some (.ref c)) then none else H c
section
variable {K : PySem.W.Frag} {A : Ad} {T T' : Nat → V} {B F0 F H F' H' : Hp} {σ σ' : L2.St} {ρ ρ' : Ro} {i : Nat} {a : Addr}
theorem SR.subLe (S : SR K A T B F0 F H σ ρ) : Ex B (subB H σ ρ) := fun c o hc => by
  unfold subB
  rw [if_neg]
  · exact S.bh c o hc
  · rintro ⟨j, ds, h1, h2⟩
    obtain ⟨l, vs, e1, e2, e3, e4, e5⟩ := S.ow j ds h1
    rw [e1] at h2
    cases h2
    rw [e3] at hc
    cases hc
theorem SR.sub (S : SR K A T B F0 F H σ ρ) : SR K A T (subB H σ ρ) F F H σ ρ := by
  refine ⟨S.fh, fun c o hc => ?_, .refl _, fun _ _ _ => rfl, S.len, S.fz, fun j ds hj => ?_, S.sep, S.tk⟩
  · unfold subB at hc
    split at hc
    · cases hc
    · exact hc
  · obtain ⟨l, vs, e1, e2, e3, e4, e5⟩ := S.ow j ds hj
    refine ⟨l, vs, e1, e2, ?_, e4, e5⟩
    unfold subB
    rw [if_pos ⟨j, ds, hj, e1⟩]
theorem SR.toTk (S : SR K A T B F0 F H σ ρ) {v : V} (hv : T 0 = v) : SR K A T B F0 F H (σ.set i (some v)) (ρ.set i (.tk 0)) where
  fh := S.fh
  bh := S.bh
  f0 := S.f0
  nw := S.nw
  len := by rw [List.length_set, List.length_set, S.len]
  fz := fun j e h => by
    rcases set_get h with ⟨rfl, q⟩ | ⟨q, h'⟩
    · cases q
    · obtain ⟨w, h1, h2⟩ := S.fz j e h'
      exact ⟨w, by rw [List.getElem?_set_ne (Ne.symm q)]; exact h1, h2⟩
  ow := fun j es h => by
    rcases set_get h with ⟨rfl, q⟩ | ⟨q, h'⟩
    · cases q
    · obtain ⟨l, vs, h1, h2⟩ := S.ow j es h'
      exact ⟨l, vs, by rw [List.getElem?_set_ne (Ne.symm q)]; exact h1, h2⟩
  sep := fun j k ds es hne hj hk => by
    rcases set_get hj with ⟨rfl, q⟩ | ⟨q, hj'⟩
    · cases q
    · rcases set_get hk with ⟨rfl, q2⟩ | ⟨q2, hk'⟩
      · cases q2
      · rw [List.getElem?_set_ne (Ne.symm q), List.getElem?_set_ne (Ne.symm q2)]
        exact S.sep j k ds es hne hj' hk'
  tk := fun j n h => by
    rcases set_get h with ⟨rfl, q⟩ | ⟨q, h'⟩
    · cases q
      have hl : j < σ.length := by
        have := (List.getElem?_eq_some_iff.mp h).1
        rw [List.length_set] at this
        rw [S.len]; exact this
      rw [List.getElem?_set_self hl, hv]
    · rw [List.getElem?_set_ne (Ne.symm q)]
      exact S.tk j n h'
theorem SR.unsub (S : SR K A T B F0 F H σ ρ) (S' : SR K A T' (subB H σ ρ) F F' H' σ' ρ') (hn : noTk ρ' = true) : SR K A T B F0 F' H' σ' ρ' :=
  ⟨S'.fh, S.subLe.trans S'.bh, S.f0.trans S'.f0, fun c o hc => (S'.nw c o (S.subLe c o hc)).trans (S.nw c o hc), S'.len, S'.fz, (fun j ds hj => by
    obtain ⟨l, vs, e1, e2, e3, e4, e5⟩ := S'.ow j ds hj
    refine ⟨l, vs, e1, e2, ?_, e4, e5⟩
    cases q : B l with
    | none => rfl
    | some o => rw [S.subLe l o q] at e3; cases e3), S'.sep, fun j n hj => (noTk_of hn hj).elim⟩
theorem Grow.unsub (S : SR K A T B F0 F H σ ρ) (G : Grow F (subB H σ ρ) F' H') : Grow F0 B F' H' :=
  ⟨S.f0.trans G.f, S.subLe.trans G.h, G.i, fun c o hc => (G.n c o (S.subLe c o hc)).trans (S.nw c o hc)⟩
end
theorem xr_sub {H : Hp} {σ : L2.St} {ρ : Ro} {K : PySem.W.Frag} {A : Ad} {T : Nat → V} {B F0 F : Hp} (S : SR K A T B F0 F H σ ρ) {y : Xn} {d : Option Addr} (h : XR H y d) : XR (subB H σ ρ) y d := by
  have key : ∀ dd fs, H dd = some (.xd fs) → subB H σ ρ dd = some (.xd fs) := fun dd fs hd => by
    unfold subB
    rw [if_neg]
    · exact hd
    · rintro ⟨j, ds, h1, h2⟩
      obtain ⟨l, vs, e1, e2, e3, e4, e5⟩ := S.ow j ds h1
      rw [e1] at h2
      cases h2
      rw [e4] at hd
      cases hd
  revert h
  unfold XR
  cases y <;> first | exact fun q => q | exact fun ⟨dd, q1, q2⟩ => ⟨dd, q1, key _ _ q2⟩
/-- in an except suite: the refusal's slot, what stood -/
noncomputable def fxS (x : Fx) (a : Addr) (B' F' : Hp) : Fx := ⟨x.A, fun _ => .ref a, B', F', fun _ _ _ _ => False⟩
def sTryAs (i : Nat) (ct : Xc → Option Bool) (gb : Ro → Option Fl) (gs : Xn → Ro → Option Fl) : Ro → Option Fl := fun ρ => match gb ρ with
  | some (.ex y ρ1) => match ct y.cl with
    | some true => if noTk ρ1 = true then match gs y (ρ1.set i (.tk 0)) with
      | some (.nx ρ2) => if noTk (ρ2.set i .un) = true then some (.nx (ρ2.set i .un)) else none
      | some (.rt d) => some (.rt d)
      | some (.rto ds) => some (.rto ds)
      | _ => none
      else none
    | some false => some (.ex y ρ1)
    | none => none
  | o => o
theorem takesF {X : Cx} : L2N.Takes X (fun _ _ _ _ => False) := fun u s' ⟨_, _, _, _, _, _, _, _, _, _, _, _, _, _, _, _, w⟩ => w.elim
section
variable {X : Cx} {x : Fx} {n xn : Str} {g : Addr} {i : Nat} {body suite : List Stmt} {b₀ : Stmt} {np pos pos' : Pos} {gb : Ro → Option Fl} {gs : Xn → Ro → Option Fl} {ct : Xc → Option Bool}
theorem pks_tryAs (hs : X.stack = X.env :: X.outer) (hf : X.env.frame = some X.env.locals) (hN : X.N.Nodup) (hi : X.N[i]? = some n) (hln : X.env.kindOf n = some .local) (hc : Names X xn (.ref g)) (tk : L2N.Takes X x.W)
    (hct : ∀ y b, ct y = some b → PySem.W.exmOne X.K (.ref (x.A.xc y)) (.ref g) = some b)
    (hb : ∀ (W : WX) (pn : List (Addr × Obj)) (xe : Value → Shared → Prop), L2N.Takes (X.tr pn xe) W → PassesOwn (model X.prog X.w) X.A X.env xe → PSs (X.tr pn xe) body (tS X.K ⟨x.A, x.T, x.B, x.F0, W⟩ gb))
    (hsu : ∀ (a : Addr) (y : Xn) (d : Option Addr) (B' F' : Hp) (pn : List (Addr × Obj)), HotE x.A (X.suite a pn) a y d → XR B' y d → PSs (X.suite a pn) (b₀ :: suite) (tS X.K (fxS x a B' F') (gs y))) :
    PS X (.Try body [.ExceptHandler (some (.Name xn np)) (some n) (b₀ :: suite) pos'] [] [] pos) (tS X.K x (sTryAs i ct gb gs)) := by
  refine ps_wk (L2N.ps_try_as (tb := fun W => tS X.K ⟨x.A, x.T, x.B, x.F0, W⟩ gb) (ts := fun a cls d E σ H => ∃ (y : Xn) (B' F' : Hp), cls = .ref (x.A.xc y.cl) ∧ XR B' y d ∧ tS X.K (fxS x a B' F') (gs y) E σ H) hs hf hN hi hln hc tk hb (fun a oe cls d pn hz hfl => ?_)) fun E σ H ⟨F, ρ, fl, S, e, w⟩ => ?_
  · refine ⟨fun pins s σ H E I ⟨y, B', F', ec, xr, q⟩ => ?_⟩
    subst ec
    obtain ⟨vs, hv⟩ := hfl
    exact (hsu a y d B' F' _ ⟨oe, ⟨rfl, vs, hv, hz.2.2 vs hv⟩, List.mem_cons_self, hz, vs, hv⟩ xr).run pins s σ H E I q
  · unfold sTryAs at e
    cases eg : gb ρ with
    | none => rw [eg] at e; cases e
    | some f1 =>
      rw [eg] at e
      refine ⟨F, ρ, f1, S, eg, ?_⟩
      cases f1 with
      | nx ρ1 => cases (Option.some.inj e); exact w
      | rt ρ1 => cases (Option.some.inj e); exact w
      | rto ρ1 => cases (Option.some.inj e); exact w
      | bk ρ1 => cases (Option.some.inj e); exact w
      | ct ρ1 => cases (Option.some.inj e); exact w
      | ex y ρ1 =>
        intro F1 H1 σ1 e1 S1 dd xr
        dsimp only at e
        cases ec : ct y.cl with
        | none => rw [ec] at e; cases e
        | some b =>
          rw [ec] at e
          cases b with
          | false =>
            cases (Option.some.inj e)
            exact ⟨false, hct _ _ ec, (fun z => nomatch z), fun _ => w F1 H1 σ1 e1 S1 dd xr⟩
          | true =>
            refine ⟨true, hct _ _ ec, fun _ a ha => ?_, (fun z => nomatch z)⟩
            dsimp only at e
            by_cases hn : noTk ρ1 = true
            rotate_left
            · rw [if_neg hn] at e; cases e
            rw [if_pos hn] at e
            have Ssub : SR X.K x.A (fun _ => V.ref a) (subB H1 σ1 ρ1) F1 F1 H1 σ1 ρ1 := (S1.sub).reT fun j m q => (noTk_of hn q).elim
            have Stk := Ssub.toTk (i := i) (v := V.ref a) rfl
            refine ⟨y, subB H1 σ1 ρ1, F1, rfl, xr_sub S1 xr, ?_⟩
            cases es : gs y (ρ1.set i (.tk 0)) with
            | none => rw [es] at e; cases e
            | some f2 =>
              rw [es] at e
              refine ⟨F1, _, f2, Stk, es, ?_⟩
              cases f2 with
              | nx ρ2 =>
                dsimp only at e
                by_cases hn2 : noTk (ρ2.set i .un) = true
                rotate_left
                · rw [if_neg hn2] at e; cases e
                rw [if_pos hn2] at e
                cases (Option.some.inj e)
                intro F2 H2 σ2 e2 S2
                exact w F2 H2 (σ2.set i none) (e1.trans e2) (S1.unsub (S2.dropV (i := i)) hn2)
              | rt d =>
                cases (Option.some.inj e)
                exact fun F2 H2 v G r => w F2 H2 v (Grow.unsub S1 G) r
              | rto ds =>
                cases (Option.some.inj e)
                intro F2 H2 l vs G hl h2 h3 h4
                refine w F2 H2 l vs (Grow.unsub S1 G) ?_ h2 h3 h4
                cases q : x.B l with
                | none => rfl
                | some o =>
                  have : subB H1 σ1 ρ1 l = none := hl
                  rw [S1.subLe l o q] at this; cases this
              | bk ρ2 => cases e
              | ct ρ2 => cases e
              | ex z ρ2 => cases e
end
end Tw
/-! TwP: count and index of flat lists; isinstance of a refusal by a table. -/
namespace Tw
open PySem PySem.Spec PyProof.Rows L2
open L2H (RoomH Hot1)
def flat1 : D → Option V
  | .non => some .non
  | .bl b => some (.bl b)
  | .int i => some (.int i)
  | .str s => some (.str s)
  | _ => none
def flats : List D → Option (List V)
  | [] => some []
  | d :: ds => match flat1 d, flats ds with
    | some v, some vs => some (v :: vs)
    | _, _ => none
section
variable {K : PySem.W.Frag} {A : Ad} {F H H0 : Hp}
theorem flat1_rep {d : D} {v u : V} (h : flat1 d = some v) (r : Rep K A F u d) : u = v ∧ flatV v = true := by
  cases r <;> first | (cases h; exact ⟨rfl, rfl⟩) | cases h
theorem flats_rep : ∀ {ds : List D} {vs us : List V}, flats ds = some vs → RepL K A F us ds → us = vs ∧ vs.all flatV = true
  | [], vs, us, h, r => by cases r; cases h; exact ⟨rfl, rfl⟩
  | d :: ds, vs, us, h, r => by
    cases r with
    | cons r1 r2 =>
      unfold flats at h
      split at h
      · rename_i v ws h1 h2
        cases (Option.some.inj h)
        obtain ⟨e1, f1⟩ := flat1_rep h1 r1
        obtain ⟨e2, f2⟩ := flats_rep h2 r2
        exact ⟨by rw [e1, e2], by rw [List.all_cons, f1, f2]; rfl⟩
      · cases h
end
def cntV (vs : List V) (v : V) : Nat := vs.countP fun z => eqV z v
theorem cnt_vals {v : V} : ∀ {vs : List V} {us : List Value}, Vals vs us → vs.all flatV = true → us.countP (eqU v) = cntV vs v
  | _, _, .nil, _ => rfl
  | y :: ys, u :: us, .cons r t, f => by
    rw [List.all_cons, Bool.and_eq_true] at f
    have ih := cnt_vals (v := v) t f.2
    unfold cntV at ih ⊢
    rw [List.countP_cons, List.countP_cons, ih, eqU_of r f.1]
section
variable {X : Cx}
def rCntF (K : PySem.W.Frag) : V → List V → Hp → VK → Prop := fun x xs H Q => ∃ (a : Addr) (ys : List V) (v : V), x = .ref a ∧ xs = [v] ∧ SqL K H a ys ∧ flatV v = true ∧ ys.all flatV = true ∧ Q (.int (cntV ys v : Nat)) H
theorem mt_cntF : MtR X "list.count" (rCntF X.K) := by
  rintro pins s σ H x xs z us Q I rx rxs ⟨a, ys, v, rfl, rfl, sq, fv, fys, q⟩
  cases rx
  obtain ⟨u, rfl, ru⟩ := vals1 rxs
  obtain ⟨its, rv, ⟨⟨oc, od, odt, osl⟩, n, ho, hc, hdn, hd⟩, hlen⟩ := I.list sq
  dsimp only at hc hd
  subst hc hd
  refine call_meets PySem.F.slot_list_count ⟨_, ho, rfl⟩ PySem.F.entry_list_count (PySem.F.args_list_count_2 _ _) (SeqAt.list_countAt a its.toArray n od osl u (eqU v)) ⟨ho, fun y hy => mem_eqAt ru fv rv fys y (by simpa using hy), ?_⟩
  have ec : its.toArray.toList.countP (eqU v) = cntV ys v := cnt_vals rv fys
  refine ⟨.int (cntV ys v : Nat), H, I.tok _, ⟨s.toks, ?_⟩, q⟩
  rw [ec]
end
def dCount (xs es : List D) : EM D := match flats xs, es with
  | some vs, [e] => match flat1 e with
    | some v => ok (.int (cntV vs v : Nat))
    | none => none
  | _, _ => none
def fstV (v : V) : List V → Option Nat
  | [] => none
  | z :: r => if eqV z v = true then some 0 else (fstV v r).map (· + 1)
theorem fstV_some {v : V} : ∀ {vs : List V} {j : Nat}, fstV v vs = some j → (∃ z, vs[j]? = some z ∧ eqV z v = true) ∧ ∀ (m : Nat) z', m < j → vs[m]? = some z' → eqV z' v = false
  | [], j, h => by cases h
  | z :: r, j, h => by
    unfold fstV at h
    by_cases q : eqV z v = true
    · rw [if_pos q] at h
      cases (Option.some.inj h)
      exact ⟨⟨z, rfl, q⟩, fun m z' hm => by omega⟩
    · rw [if_neg q] at h
      obtain ⟨i, hi, rfl⟩ := Option.map_eq_some_iff.mp h
      obtain ⟨⟨z2, h1, h2⟩, h3⟩ := fstV_some hi
      refine ⟨⟨z2, by simpa using h1, h2⟩, fun m z' hm hz => ?_⟩
      cases m with
      | zero =>
        have : z = z' := by simpa using hz
        subst this
        exact Bool.eq_false_iff.mpr q
      | succ m => exact h3 m z' (by omega) (by simpa using hz)
def dIndex (xs es : List D) : EM D := match flats xs, es with
  | some vs, [e] => match flat1 e with
    | some v => match fstV v vs with
      | some j => ok (.int (j : Nat))
      | none => none
    | none => none
  | _, _ => none
def eLm (h : List D → List D → EM D) (g : Ro → EM D) (fs : Ro → EM (List D)) : Ro → EM D := fun ρ => bnd (g ρ) fun d => match d with
  | .lst xs => bnd (fs ρ) fun ds => h xs ds
  | _ => none
section
variable {X : Cx} {x : Fx} {o e : Expr} {apos pos : Pos} {g : Ro → EM D} {fs : Ro → EM (List D)}
theorem pk_count (ho : PE X o (tK X.K x .bw g)) (ha : PA X [e] (tA X.K x .bw fs))
    (hbase : attributeBase o "count" X.env (eval o X.env) = eval o X.env := by rfl)
    (hfew : ((backTo pos (starEach [e] X.env)).all (fun x => !x.1) && (backToKw pos (keywordEach [] X.env)).all (fun x => x.1.isSome)
      && decide ([e].length + ([] : List Keyword).length + (if ([] : List Keyword).isEmpty then 0 else 1) < 30)) = true := by rfl)
    (hline : (apos.endLine == pos.line) = true := by rfl) (hs : starEach [e] X.env = (false, eval e X.env) :: starEach [] X.env := by rfl) (hplain : (backTo pos (starEach [] X.env)).any (·.1) = false := by rfl) :
    PE X (.Call (.Attribute o "count" apos) [e] [] pos) (tK X.K x .fz (eLm dCount g fs)) :=
  pe_wk (pe_bm PySem.F.plainAttrs_list PySem.F.slot_list_count PySem.F.type_list_count mt_cntF ho ha hbase hfew hline hs hplain) fun σ H Q ⟨F, ρ, r, S, ee, w⟩ =>
    tk_step S ee w.x fun d F1 H1 v G1 S1 r1 e1 => by
      split at e1
      · rename_i xs
        obtain ⟨a, vs, rfl, h1, q1⟩ := r1.lst S1.fh
        refine ⟨.inl ⟨rfl, _, .of h1⟩, ta_step S1 e1 (fun y hy => Wx.grow (K := X.K) G1 (w.x y hy)) fun ds F2 H2 us G2 S2 r2 e2 => ?_⟩
        unfold dCount at e2
        split at e2
        · rename_i ws d hf
          split at e2
          · rename_i u hu
            cases (Option.some.inj e2)
            obtain ⟨e3, f3⟩ := flats_rep hf q1
            cases r2 with
            | cons ra rb =>
              cases rb
              obtain ⟨e4, f4⟩ := flat1_rep hu (RK.rep ra fun _ z => by subst z; cases hu)
              subst e3 e4
              exact ⟨a, _, _, rfl, rfl, .inl (.inl (G2.h _ _ h1)), f4, f3, w F2 H2 _ (G1.trans G2) (.int _)⟩
          · cases e2
        · cases e2
      · cases e1
theorem pk_index (ho : PE X o (tK X.K x .bw g)) (ha : PA X [e] (tA X.K x .bw fs))
    (hbase : attributeBase o "index" X.env (eval o X.env) = eval o X.env := by rfl)
    (hfew : ((backTo pos (starEach [e] X.env)).all (fun x => !x.1) && (backToKw pos (keywordEach [] X.env)).all (fun x => x.1.isSome)
      && decide ([e].length + ([] : List Keyword).length + (if ([] : List Keyword).isEmpty then 0 else 1) < 30)) = true := by rfl)
    (hline : (apos.endLine == pos.line) = true := by rfl) (hs : starEach [e] X.env = (false, eval e X.env) :: starEach [] X.env := by rfl) (hplain : (backTo pos (starEach [] X.env)).any (·.1) = false := by rfl) :
    PE X (.Call (.Attribute o "index" apos) [e] [] pos) (tK X.K x .fz (eLm dIndex g fs)) :=
  pe_wk (pe_bm PySem.F.plainAttrs_list PySem.F.slot_list_index PySem.F.type_list_index mt_index ho ha hbase hfew hline hs hplain) fun σ H Q ⟨F, ρ, r, S, ee, w⟩ =>
    tk_step S ee w.x fun d F1 H1 v G1 S1 r1 e1 => by
      split at e1
      · rename_i xs
        obtain ⟨a, vs, rfl, h1, q1⟩ := r1.lst S1.fh
        refine ⟨.inl ⟨rfl, _, .of h1⟩, ta_step S1 e1 (fun y hy => Wx.grow (K := X.K) G1 (w.x y hy)) fun ds F2 H2 us G2 S2 r2 e2 => ?_⟩
        unfold dIndex at e2
        split at e2
        · rename_i ws d hf
          split at e2
          · rename_i u hu
            split at e2
            · rename_i j hj
              cases (Option.some.inj e2)
              obtain ⟨e3, f3⟩ := flats_rep hf q1
              cases r2 with
              | cons ra rb =>
                cases rb
                obtain ⟨e4, f4⟩ := flat1_rep hu (RK.rep ra fun _ z => by subst z; cases hu)
                subst e3 e4
                obtain ⟨⟨z, g1, g2⟩, g3⟩ := fstV_some hj
                exact ⟨a, _, _, j, z, rfl, rfl, .inl (.inl (G2.h _ _ h1)), f4, f3, g1, g2, g3, w F2 H2 _ (G1.trans G2) (.int _)⟩
            · cases e2
          · cases e2
        · cases e2
      · cases e1
end
/-! ### a refusal -/
def dIsE (tab : Xc → Option Bool) (y : Xn) : EM D := (tab y.cl).map fun b => .ok (.bl b)
def IsTabE (K : PySem.W.Frag) (A : Ad) (u : Value) (tab : Xc → Option Bool) : Prop := ∀ c b, tab c = some b → (c ≠ .badRow ∧ c ≠ .badDay) ∧ ExcC K (A.xc c) ∧ PySem.W.kitOne K (.ref (A.xc c)) u = some b
theorem xr_none {H : Hp} {y : Xn} {d : Option Addr} (h : XR H y d) (h1 : y.cl ≠ .badRow ∧ y.cl ≠ .badDay) : d = none := by
  cases y <;> first | exact h | exact absurd rfl h1.1 | exact absurd rfl h1.2
section
variable {X : Cx} {x : Fx} {a : Addr} {y : Xn} {d : Option Addr} {e c : Expr} {p pos : Pos} {i : Nat} {cv : V} {u : Value} {tab : Xc → Option Bool}
theorem pk_isEt (T : IsTabE X.K x.A u tab) (hot : HotE x.A X a y d) (hB : XR x.B y d) (hT : ∀ j, x.T j = .ref a) (cu : ClsV cv u) (hm : X.mg "isinstance" = none) (hg : Gl X "isinstance") (hc : PE X c (tC cv)) (he : PE X e (tVar i))
    (hs : starEach [e, c] X.env = (false, eval e X.env) :: starEach [c] X.env := by rfl) (hs2 : starEach [c] X.env = (false, eval c X.env) :: starEach [] X.env := by rfl) (hpl : (backTo pos (starEach [c] X.env)).any (·.1) = false := by rfl) :
    PE X (.Call (.Name "isinstance" p) [e, c] [] pos) (tK X.K x .fz (eTk i (dIsE tab y))) := by
  cases et : tab y.cl with
  | none =>
    refine ⟨fun pins s σ H Q I ⟨F, ρ, r, S, ee, w⟩ => ?_⟩
    unfold eTk dIsE at ee
    rw [et] at ee
    split at ee <;> cases ee
  | some b =>
    obtain ⟨h1, h2, h3⟩ := T _ _ et
    have hd := xr_none hB h1
    subst hd
    have := pk_isE (i := i) (p := p) (pos := pos) h2 hot hT (fun z q => cu.eq q) h3 hm hg hc he hs hs2 hpl
    unfold dIsE
    rw [et]
    exact this
end
theorem roomS {k : Nat} {X : Cx} {a : Addr} {pn : List (Addr × Obj)} (r : Room k X.A) : RoomH k (X.suite a pn).A := ⟨r.dp, r.un⟩
theorem huH {A : Around} {k : Nat} (r : RoomH k A) : A.units + 64 < PySem.cLine := by have := r.un; omega
theorem huH5 {A : Around} {k : Nat} (r : RoomH k A) : A.units + 65 < PySem.cLine := by have := r.un; omega
theorem no_cx {P : Program} {w : World} {H : Hp} {s s' : Shared} {u : Value} (z : L2N.CX P w [] H s (fun _ _ _ => False) u s') : False := by
  obtain ⟨_, _, _, _, _, _, _, _, _, _, _, _, q⟩ := z
  exact q
theorem zipNo {nm : Str} : ∀ {ns : List Str} {vs : List V}, nm ∉ ns → (ns.zip vs).lookup nm = none
  | [], _, _ => rfl
  | n :: ns, [], _ => rfl
  | n :: ns, v :: vs, h => by
    rw [List.zip_cons_cons, List.lookup_cons, beq_false_of_ne fun q => h (by rw [q]; exact List.mem_cons_self)]
    exact zipNo fun q => h (List.mem_cons_of_mem _ q)
theorem kit_ref {K : PySem.W.Frag} {C : Addr} {t : Value} {b : Bool} (hd : PySem.W.hasDictIn K C = true) (ht : PySem.W.typeIn K (.ref C) = some (.type "type")) (hs : PySem.W.subIn K (.ref C) (.ref C) = some true) (h : PySem.W.subIn K t (.ref C) = some b) : PySem.W.kitOne K t (.ref C) = some b := by
  unfold PySem.W.kitOne
  by_cases q : (t == Value.ref C) = true
  · rw [if_pos q]
    rw [beq_iff_eq.mp q, hs] at h
    exact h
  · rw [if_neg q]
    obtain ⟨cd, hc, _⟩ := PySem.W.any_some hd
    show (if ((PySem.W.clsIn K C).isSome && PySem.W.typeIn K (.ref C) == some (.type "type")) = true then PySem.W.subIn K t (.ref C) else none) = some b
    rw [hc, ht]
    exact h
theorem kit_ve {K : PySem.W.Frag} {D : Addr} {b : Bool} (h : PySem.W.subIn K (.ref D) (.type "ValueError") = some b) : PySem.W.kitOne K (.ref D) (.type "ValueError") = some b := by
  unfold PySem.W.kitOne
  rw [if_neg (by simp)]
  show (if PySem.W.kitMeta "ValueError" = true then PySem.W.subIn K (.ref D) (.type "ValueError") else none) = some b
  rw [if_pos (by decide +kernel)]
  exact h
end Tw
/-! TwQ: a text times an int. -/
namespace Tw
open PySem PySem.Spec PyProof.Rows L2
def repS (a : Str) (i : Int) : Str := if i < 1 then Str.empty else if (i == 1 || a.length == 0) = true then a else ⟨(List.replicate i.toNat a.cps).foldl (· ++ ·) #[]⟩
def rRepS : R2 := fun x y H Q => ∃ a i, x = .str a ∧ y = .int i ∧ 0 ≤ i ∧ i ≤ 100 ∧ a.length ≤ 100 ∧ Q (.str (repS a i)) H
theorem short {a : Str} {i : Int} (h0 : 0 ≤ i) (h1 : i ≤ 100) (h2 : a.length ≤ 100) : Builtin.Str.tooLong (a.length * i.toNat) = false := by
  unfold Builtin.Str.tooLong
  have h3 : a.length * i.toNat ≤ 100 * 100 := Nat.mul_le_mul h2 (by omega)
  have e : sizeLine = 16777216 := sizeLine_eq
  exact decide_eq_false (by omega)
section
variable {X : Cx} {x : Fx} {a b : Expr} {pos : Pos} {f g : Ro → EM D}
theorem op_repS : OpR X (binaryOp .Mult) rRepS := by
  rintro pins s σ H z y v u Q I rz ry ⟨a, i, rfl, rfl, h0, h1, h2, q⟩
  obtain ⟨t, rfl⟩ := rz
  obtain ⟨t', rfl⟩ := ry
  refine P.mul_str ?_ (fun p1 _ => ?_) (fun _ _ => ?_) ?_
  · have e1 : ¬ i < -(2 ^ 63 : Int) := by omega
    have e2 : ¬ i ≥ 2 ^ 63 := by omega
    rw [decide_eq_false e1, decide_eq_false e2]; rfl
  · have hp : 0 < i := by omega
    have : (a.length : Int) ≤ (2 ^ 63 - 1) / i := by
      apply Int.le_ediv_of_mul_le hp
      have : (a.length : Int) * i ≤ 100 * 100 := Int.mul_le_mul (by omega) h1 h0 (by decide)
      omega
    omega
  · exact short h0 h1 h2
  · have fin : ∀ tk n, EP X pins σ Q (.str (repS a i) tk) { s with toks := n } := fun tk n => ⟨.str (repS a i), H, I.tok _, ⟨_, rfl⟩, q⟩
    unfold repS at fin
    split
    · rename_i p1
      rw [if_pos p1] at fin
      exact ⟨by decide, fin _ _⟩
    · rename_i p1
      rw [if_neg p1] at fin
      split
      · rename_i p2
        rw [if_pos p2] at fin
        exact fin t s.toks
      · rename_i p2
        rw [if_neg p2] at fin
        exact ⟨fits_reps (short h0 h1 h2), fin _ _⟩
def dMulS (d e : D) : EM D := match d, e with
  | .str a, .int i => if 0 ≤ i ∧ i ≤ 100 ∧ a.length ≤ 100 then ok (.str (repS a i)) else none
  | _, _ => none
theorem op2_mulS {k : Kd} (hk : k ≠ .ow) : Op2 X.K x k rRepS dMulS := fun F H σ v u d e q Q ex rv ru hq w => by
  unfold dMulS at hq
  split at hq
  · split at hq
    · rename_i h
      cases (Option.some.inj hq)
      rw [rk_str rv, rk_int ru]
      refine ⟨_, _, rfl, rfl, h.1, h.2.1, h.2.2, w F H _ (.refl ex) (by
        cases k with
        | bw => exact .inl (.str _)
        | fz => exact .str _
        | ow => exact absurd rfl hk)⟩
    · cases hq
  · cases hq
theorem nox_mulS : NoX dMulS := fun d e y h => by
  unfold dMulS at h
  split at h
  · split at h <;> cases h
  · cases h
theorem pk_mulS (ha : PE X a (tK X.K x .bw f)) (hb : PE X b (tK X.K x .bw g)) : PE X (.BinOp a .Mult b pos) (tK X.K x .fz (eOp dMulS f g)) := pk_op op_repS (op2_mulS (by decide)) nox_mulS ha hb
end
end Tw
/-! TwV: evaluation of the mirrors by simp. -/
namespace Tw
open PySem PySem.Spec PyProof.Rows L2
theorem bnd_ok {α β : Type} (a : α) (f : α → EM β) : bnd (some (.ok a)) f = f a := rfl
theorem bnd_er {α β : Type} (e : Xn) (f : α → EM β) : bnd (some (.error e)) f = some (.error e) := rfl
theorem bnd_if {α β : Type} {c : Prop} [Decidable c] (a b : EM α) (f : α → EM β) : bnd (if c then a else b) f = if c then bnd a f else bnd b f := by split <;> rfl
theorem toS_ok {α : Type} (ρ : Ro) (a : α) (g : α → Option Fl) : toS ρ (some (.ok a)) g = g a := rfl
theorem toS_er {α : Type} (ρ : Ro) (e : Xn) (g : α → Option Fl) : toS ρ (some (.error e)) g = some (.ex e ρ) := rfl
theorem toS_if {α : Type} {c : Prop} [Decidable c] (ρ : Ro) (a b : EM α) (g : α → Option Fl) : toS ρ (if c then a else b) g = if c then toS ρ a g else toS ρ b g := by split <;> rfl
theorem out_if {c : Prop} [Decidable c] (a b : Option Fl) : outOf (if c then a else b) = if c then outOf a else outOf b := by split <;> rfl
theorem out_rt (d : D) : outOf (some (.rt d)) = some (.ret d) := rfl
theorem out_rto (d : List D) : outOf (some (.rto d)) = some (.reto d) := rfl
theorem out_ex (e : Xn) (ρ : Ro) : outOf (some (.ex e ρ)) = some (.exc e) := rfl
theorem out_nx (ρ : Ro) : outOf (some (.nx ρ)) = some (.ret .non) := rfl
theorem seq_nx {g1 g2 : Ro → Option Fl} {ρ ρ' : Ro} (h : g1 ρ = some (.nx ρ')) : sSeq g1 g2 ρ = g2 ρ' := by unfold sSeq; rw [h]
theorem seq_rt {g1 g2 : Ro → Option Fl} {ρ : Ro} {d : D} (h : g1 ρ = some (.rt d)) : sSeq g1 g2 ρ = some (.rt d) := by unfold sSeq; rw [h]
theorem seq_ex {g1 g2 : Ro → Option Fl} {ρ ρ' : Ro} {e : Xn} (h : g1 ρ = some (.ex e ρ')) : sSeq g1 g2 ρ = some (.ex e ρ') := by unfold sSeq; rw [h]
theorem for_nil {t : Tg} {g : Ro → Option Fl} {ρ : Ro} : forD t g [] ρ = some (.nx ρ) := rfl
theorem for_cons {t : Tg} {g : Ro → Option Fl} {d : D} {ds : List D} {ρ ρ1 ρ2 : Ro} (ht : t d ρ = some ρ1) (h : g ρ1 = some (.nx ρ2)) : forD t g (d :: ds) ρ = forD t g ds ρ2 := by
  show (match t d ρ with | none => none | some ρ1 => match g ρ1 with | some (.nx ρ2) => forD t g ds ρ2 | some (.ct ρ2) => forD t g ds ρ2 | some (.bk ρ2) => some (.nx ρ2) | o => o) = _
  rw [ht]; dsimp only; rw [h]
theorem for_ex {t : Tg} {g : Ro → Option Fl} {d : D} {ds : List D} {ρ ρ1 ρ2 : Ro} {y : Xn} (ht : t d ρ = some ρ1) (h : g ρ1 = some (.ex y ρ2)) : forD t g (d :: ds) ρ = some (.ex y ρ2) := by
  show (match t d ρ with | none => none | some ρ1 => match g ρ1 with | some (.nx ρ2) => forD t g ds ρ2 | some (.ct ρ2) => forD t g ds ρ2 | some (.bk ρ2) => some (.nx ρ2) | o => o) = _
  rw [ht]; dsimp only; rw [h]
theorem for_rt {t : Tg} {g : Ro → Option Fl} {d : D} {ds : List D} {ρ ρ1 : Ro} {y : D} (ht : t d ρ = some ρ1) (h : g ρ1 = some (.rt y)) : forD t g (d :: ds) ρ = some (.rt y) := by
  show (match t d ρ with | none => none | some ρ1 => match g ρ1 with | some (.nx ρ2) => forD t g ds ρ2 | some (.ct ρ2) => forD t g ds ρ2 | some (.bk ρ2) => some (.nx ρ2) | o => o) = _
  rw [ht]; dsimp only; rw [h]
theorem call_ret {m : List D → Option Out} {ds : List D} {d : D} (h : m ds = some (.ret d)) : dCall m ds = some (.ok d) := by unfold dCall; rw [h]; rfl
theorem call_exc {m : List D → Option Out} {ds : List D} {d : Xn} (h : m ds = some (.exc d)) : dCall m ds = some (.error d) := by unfold dCall; rw [h]
theorem call_reto {m : List D → Option Out} {ds : List D} {d : List D} (h : m ds = some (.reto d)) : dCall m ds = some (.ok (.lst d)) := by unfold dCall; rw [h]; rfl
theorem def_all {na : Nat} {h : List D → EM D} {cs : List D} (hl : cs.length = na) : dDef na [] h cs = h cs := by unfold dDef; rw [List.append_nil, if_pos hl]
theorem def_dd {na : Nat} {dds : List D} {h : List D → EM D} {cs : List D} (hl : (cs ++ dds).length = na) : dDef na dds h cs = h (cs ++ dds) := by unfold dDef; rw [if_pos hl]
theorem not_tt (p : Ro → EM Bool) (ρ : Ro) (b : Bool) (h : p ρ = some (.ok b)) : bNot p ρ = some (.ok (!b)) := by unfold bNot; rw [h]; rfl
/-- an expression evaluated -/
theorem call_ev {f : List D → EM D} {fs : Ro → EM (List D)} {ρ : Ro} {ds : List D} {r : EM D} (h1 : fs ρ = some (.ok ds)) (h2 : f ds = r) : eCall f fs ρ = r := by unfold eCall; rw [h1]; exact h2
theorem op_ev {h : D → D → EM D} {f g : Ro → EM D} {ρ : Ro} {d e : D} {r : EM D} (h1 : f ρ = some (.ok d)) (h2 : g ρ = some (.ok e)) (h3 : h d e = r) : eOp h f g ρ = r := by unfold eOp; rw [h1]; show bnd (g ρ) _ = _; rw [h2]; exact h3
theorem bT_ev {f : Ro → EM D} {ρ : Ro} {b : Bool} (h : f ρ = some (.ok (.bl b))) : bT f ρ = some (.ok b) := by unfold bT; rw [h]; rfl
theorem bT_er {f : Ro → EM D} {ρ : Ro} {b : Xn} (h : f ρ = some (.error b)) : bT f ρ = some (.error b) := by unfold bT; rw [h]; rfl
theorem or_t {p q : Ro → EM Bool} {ρ : Ro} (h : p ρ = some (.ok true)) : bOr p q ρ = some (.ok true) := by unfold bOr; rw [h]; rfl
theorem or_f {p q : Ro → EM Bool} {ρ : Ro} {r : EM Bool} (h : p ρ = some (.ok false)) (h2 : q ρ = r) : bOr p q ρ = r := by unfold bOr; rw [h]; exact h2
theorem and_f {p q : Ro → EM Bool} {ρ : Ro} (h : p ρ = some (.ok false)) : bAnd p q ρ = some (.ok false) := by unfold bAnd; rw [h]; rfl
theorem and_t {p q : Ro → EM Bool} {ρ : Ro} {r : EM Bool} (h : p ρ = some (.ok true)) (h2 : q ρ = r) : bAnd p q ρ = r := by unfold bAnd; rw [h]; exact h2
theorem if_t {c : Ro → EM Bool} {g1 g2 : Ro → Option Fl} {ρ : Ro} {r : Option Fl} (h : c ρ = some (.ok true)) (h2 : g1 ρ = r) : sIf c g1 g2 ρ = r := by unfold sIf; rw [h]; exact h2
theorem if_f {c : Ro → EM Bool} {g1 g2 : Ro → Option Fl} {ρ : Ro} {r : Option Fl} (h : c ρ = some (.ok false)) (h2 : g2 ρ = r) : sIf c g1 g2 ρ = r := by unfold sIf; rw [h]; exact h2
theorem if_e {c : Ro → EM Bool} {g1 g2 : Ro → Option Fl} {ρ : Ro} {e : Xn} (h : c ρ = some (.error e)) : sIf c g1 g2 ρ = some (.ex e ρ) := by unfold sIf; rw [h]; rfl
theorem set_ev {i : Nat} {f : Ro → EM D} {ρ : Ro} {d : D} (h : f ρ = some (.ok d)) : sSet i f ρ = some (.nx (ρ.set i (.fz d))) := by unfold sSet; rw [h]; rfl
theorem set_er {i : Nat} {f : Ro → EM D} {ρ : Ro} {e : Xn} (h : f ρ = some (.error e)) : sSet i f ρ = some (.ex e ρ) := by unfold sSet; rw [h]; rfl
theorem ret_ev {f : Ro → EM D} {ρ : Ro} {d : D} (h : f ρ = some (.ok d)) : sRet f ρ = some (.rt d) := by unfold sRet; rw [h]; rfl
theorem ret_er {f : Ro → EM D} {ρ : Ro} {e : Xn} (h : f ρ = some (.error e)) : sRet f ρ = some (.ex e ρ) := by unfold sRet; rw [h]; rfl
theorem run_ret {n : Nat} {body : Ro → Option Fl} {ds : List D} {d : D} (h : body (startE n ds) = some (.rt d)) : runD n body ds = some (.ret d) := by unfold runD; rw [h]; rfl
theorem run_exc {n : Nat} {body : Ro → Option Fl} {ds : List D} {d : Xn} {ρ : Ro} (h : body (startE n ds) = some (.ex d ρ)) : runD n body ds = some (.exc d) := by unfold runD; rw [h]; rfl
theorem make_er {m : List D → EM (List D)} {c : Cl} {cs : List D} {e : Xn} (h : m cs = some (.error e)) : dMake m c cs = some (.error e) := by unfold dMake; rw [h]; rfl
theorem make_ok {m : List D → EM (List D)} {c : Cl} {cs fs : List D} (h : m cs = some (.ok fs)) : dMake m c cs = some (.ok (.obj c fs)) := by unfold dMake; rw [h]; rfl
theorem iS_nx {g : Ro → Option Fl} {g2 : Ro → Fs → Option IFl} {ρ ρ' : Ro} {fs : Fs} {r : Option IFl} (h : g ρ = some (.nx ρ')) (h2 : g2 ρ' fs = r) : iSeq (iS g) g2 ρ fs = r := by unfold iSeq iS; rw [h]; exact h2
theorem iS_ex {g : Ro → Option Fl} {g2 : Ro → Fs → Option IFl} {ρ ρ' : Ro} {fs : Fs} {e : Xn} (h : g ρ = some (.ex e ρ')) : iSeq (iS g) g2 ρ fs = some (.ex e) := by unfold iSeq iS; rw [h]
theorem init_er {names : List Str} {n : Nat} {body : Ro → Fs → Option IFl} {ds : List D} {e : Xn} (h : body (startI n ds) [] = some (.ex e)) : runI names n body ds = some (.error e) := by unfold runI; rw [h]
theorem try_nx {i : Nat} {ct : Xc → Option Bool} {gb : Ro → Option Fl} {gs : Xn → Ro → Option Fl} {ρ ρ' : Ro} (h : gb ρ = some (.nx ρ')) : sTryAs i ct gb gs ρ = some (.nx ρ') := by unfold sTryAs; rw [h]
theorem try_rt {i : Nat} {ct : Xc → Option Bool} {gb : Ro → Option Fl} {gs : Xn → Ro → Option Fl} {ρ ρ1 : Ro} {y : Xn} {d : D} (h : gb ρ = some (.ex y ρ1)) (h1 : ct y.cl = some true) (h2 : noTk ρ1 = true) (h3 : gs y (ρ1.set i (.tk 0)) = some (.rt d)) : sTryAs i ct gb gs ρ = some (.rt d) := by
  unfold sTryAs; rw [h]; dsimp only; rw [h1]; dsimp only; rw [if_pos h2, h3]
end Tw
/-! TwR: defs that may count on an empty row of guards; str of nested data; the end for such a law. -/
namespace Tw
open PySem PySem.Spec PyProof.Rows L2
/-- a def's promise where no repr is under way -/
structure FnG (P : Program) (w : World) (K : PySem.W.Frag) (mg : Str → Option Value) (base : Heap) (C : CXT) (k : Nat) (f : Addr) (fd : FuncData) (ps : List Str) (sp : Sp) : Prop where
  len : ∀ vs H Q E, sp vs H Q E → vs.length = ps.length
  go : ∀ (R : Around) (out : List Env) (s : Shared) (H : Hp) (args : Args) (us : List Value) (vs : List V) (Q : VK) (E : XK), R.guards = some [] → Room k R → Env0 P w K mg base R out s H → BindsTo s fd args (ps.zip us) → Vals vs us → sp vs H Q E →
    codeAny (model P w) R (.call (.ref f) args) (CR C out P w H s Q E) s
section
variable {P : Program} {w : World} {K : PySem.W.Frag} {mg : Str → Option Value} {base : Heap} {C : CXT} {k : Nat} {f : Addr} {fd : FuncData} {ps : List Str} {sp sp' : Sp}
theorem FnG.imp (F : FnG P w K mg base C k f fd ps sp) (h : ∀ vs H Q E, sp' vs H Q E → sp vs H Q E) : FnG P w K mg base C k f fd ps sp' :=
  ⟨fun vs H Q E q => F.len vs H Q E (h _ _ _ _ q), fun R out s H args us vs Q E g hr e0 b r q => F.go R out s H args us vs Q E g hr e0 b r (h _ _ _ _ q)⟩
theorem FnG.low {j : Nat} (F : FnG P w K mg base C j f fd ps sp) (h : j ≤ k) : FnG P w K mg base C k f fd ps sp :=
  ⟨F.len, fun R out s H args us vs Q E g hr => F.go R out s H args us vs Q E g (hr.mono h)⟩
theorem FnG.of_body {nm qual : Str} {params : Arguments} {bd : List Stmt} {scope : Scope} {dV kV doc pm cdv ct oc : Value} {an od : Option Addr} {osl : Array (Option Value)} {N : List Str}
    (lk : K.lookup f = some ⟨oc, od, .func (PySem.W.fnOf nm qual params bd scope dV kV doc pm an cdv ct), osl⟩) (cd : PySem.W.codeIn K cdv qual = true) (S : FnScope N ps scope) (ln : ∀ vs H Q E, sp vs H Q E → vs.length = ps.length)
    (hb : ∀ (R : Around) (out : List Env) (s : Shared) (H : Hp) (vs : List V) (Q : VK) (E : XK), R.guards = some [] → Room k (R.deeper (envOfC qual scope s.heap.objs.size f cdv)) → sp vs H Q E →
      ∃ t, PSs (cxOf C P w K mg base N qual scope f cdv R out s H E) bd t ∧ t { nx := fun _ G => Q .non G, rt := Q } (L2.start N vs) H) :
    FnG P w K mg base C (k + 1) f (PySem.W.fnOf nm qual params bd scope dV kV doc pm an cdv ct) ps sp := by
  refine ⟨ln, fun R out s H args us vs Q E g hr e0 bi r q => ?_⟩
  have kp : ∀ b o, base.get? b = some o → s.heap.get? b = some o := fun b o z => (e0.bs b o z).1
  have inK : K.In s.heap := e0.mod.kin.keeps kp
  refine codeAny_call_function hr.depth (inK _ _ lk) rfl S.co S.gen rfl (PySem.W.codeRec_of inK cd) (bi _ _ _ _ ?_)
  refine wpAny_newFunctionEnv_cells S.kind (fun y hy => ?_) fun env ev s1 x => ?_
  · obtain ⟨n, v⟩ := y
    rcases S.par n (List.of_mem_zip hy).1 with z | z
    · exact Or.inl z
    · exact Or.inr ⟨z, PySem.W.cellsFrom_some _ _ _ (Or.inl z)⟩
  subst ev
  refine ⟨(e0.mod.nolimit.keeps kp).keeps x.toInCall.keep, codeAny_func ?_⟩
  obtain ⟨t, ht, hq⟩ := hb R out s H vs Q E g (hr.deeper _) q
  have J := inv_start (CX := C) (P := P) (w := w) (E := E) S hr.hd e0 (ln _ _ _ _ q) r x
  refine wpAny_mono (ht.run [] s1 _ H _ J hq) (fun fl s' z => ?_) fun e s' z => z
  match fl, z with
  | .ret u, ⟨v, σ', H', J', rv, q'⟩ => exact ⟨v, H', J'.os, J'.bare, J'.base, J'.hok, rv, q'⟩
  | .next, ⟨σ', H', J', q'⟩ => exact ⟨V.non, H', J'.os, J'.bare, J'.base, J'.hok, rfl, q'⟩
  | .brk, ⟨_, _, _, z'⟩ => exact z'.elim
  | .cont, ⟨_, _, _, z'⟩ => exact z'.elim
end
section
variable {P : Program} {w : World} {K : PySem.W.Frag} {mg : Str → Option Value} {base : Heap}
/-- a def by its body -/
theorem fnG {nm qual : Str} {st : Stmt} {f : Addr} {fd : FuncData} {N ps : List Str} {k : Nat} {A : Ad} {body : Ro → Option Fl} (F : Fun K nm qual st f fd) (S : FnScope N ps (defScope st))
    (hb : ∀ (cdv : Value) (A' : Around) (outer : List Env) (s : Shared) (H F0 : Hp) (E : XK), A'.guards = some [] → Room k (A'.deeper (envOfC qual (defScope st) s.heap.objs.size f cdv)) →
      PSs (cxOf (L2N.CX P w) P w K mg base N qual (defScope st) f cdv A' outer s H E) (defBody st) (tS K (fxOf A H F0 E) body)) :
    FnG P w K mg base (L2N.CX P w) (k + 1) f fd ps (spD K A ps.length (runD N.length body)) := by
  obtain ⟨oc, od, kV, doc, pm, an, cdv, ct, osl, rfl, lk, cd⟩ := F.ex
  exact FnG.of_body lk cd S spD_len fun R out s H vs Q E g hr ⟨F0, ds, o, e, r, l, hm, wd⟩ => ⟨_, hb cdv R out s H F0 E g hr, run_body e r hm wd⟩
end
/-- a def of this kind that is called by its name -/
structure CalG (P : Program) (w : World) (K : PySem.W.Frag) (mg : Str → Option Value) (base : Heap) (A : Ad) (k : Nat) (nm : Str) (na : Nat) (m : List D → Option Out) : Prop where
  ex : ∃ f fd ps k', k' ≤ k ∧ FnG P w K mg base (L2N.CX P w) k' f fd ps (spD K A na m) ∧ mg nm = some (.ref f) ∧ PySem.W.keepIn K (.ref f) = true ∧ Binds K fd ps []
section
variable {X : Cx} {x : Fx} {n : Str} {p pos : Pos} {e : Expr} {es : List Expr} {fs : Ro → EM (List D)} {kk na : Nat} {m : List D → Option Out}
theorem run_gd {C : CXT} {E : L2.St → XK} {f : Addr} {fd : FuncData} {ps : List Str} {sp : Sp} {k : Nat} {pins : List (Addr × Obj)} {σ : L2.St} {H : Hp} {s : Shared} {Q : VK} {us : List Value} {vs : List V} (F : FnG X.prog X.w X.K X.mg X.base C k f fd ps sp) (hg : X.A.guards = some []) (hr : Room k X.A) (hb : Binds X.K fd ps []) (hx : PassesAt C X σ (E σ))
    (I : Inv X pins σ H s) (r : Vals vs us) (h : sp vs H Q (E σ)) : wpAny (model X.prog X.w) X.A (call (.ref f) us) (EP X pins σ Q) X.xe s := by
  have hl : us.length = ps.length := by rw [← r.length]; exact F.len _ _ _ _ h
  have hb' := hb s us I.kIn (by rw [List.append_nil]; exact hl)
  rw [List.append_nil] at hb'
  refine wpAny_call (codeAny_mono (F.go X.A X.stack s H ⟨us, []⟩ us vs Q (E σ) hg hr I.env0 hb' r h) fun z s' hq => ?_)
  match z, hq with
  | .error e, hq => exact hx pins H s e s' I hq
  | .ok (.ret u), hq => exact I.after hq
  | .ok .next, hq => exact hq.elim
  | .ok .brk, hq => exact hq.elim
  | .ok .cont, hq => exact hq.elim
theorem pk_gd (C : CalG X.prog X.w X.K X.mg X.base x.A kk n na m) (tk : L2N.Takes X x.W) (hgd : X.A.guards = some []) (hr : Room kk X.A) (ha : PA X (e :: es) (tA X.K x .fz fs)) (hg : Gl X n := by rfl) (hdb : (n == ("__debug__" : Str)) = false := by decide) (he : starEach (e :: es) X.env = (false, eval e X.env) :: starEach es X.env := by rfl) (hpl : (backTo pos (starEach es X.env)).any (·.1) = false := by rfl) :
    PE X (.Call (.Name n p) (e :: es) [] pos) (tK X.K x .fz (eCall (dDef na [] (dCall m)) fs)) := by
  obtain ⟨f, fd, ps, k', hk, Fn, hm, hkp, hb⟩ := C.ex
  refine pe_wk (t := tCallG (spD X.K x.A na m) [] (WE x.W) (tA X.K x .fz fs)) ⟨fun pins s σ H Q I h => ?_⟩ fun σ H Q ⟨F, ρ, r, S, e, w⟩ =>
    ta_step S e w.x fun cs F1 H1 vs G1 S1 r1 e1 => by
      obtain ⟨hl, e2⟩ := dDef_some e1
      rw [List.append_nil] at hl e2
      show spD X.K x.A na m (vs ++ []) H1 Q (WE x.W σ)
      rw [List.append_nil]
      exact sp_call S1.fh r1.repL hl e2 (w.grow G1)
  refine wpAny_Call_Name_kw (ld_glob I hg hm ?_ hdb)
  refine PySem.W.callWith_K (h₀ := X.base) I.ok.mod.kin hkp (thn (ha.run pos pins s σ H _ I h) fun us s1 ⟨vs, H1, I1, r, q⟩ => ⟨I1.kIn, ?_⟩) he hpl
  have q' : spD X.K x.A na m (vs ++ []) H1 Q (WE x.W σ) := q
  rw [List.append_nil] at q'
  exact run_gd (E := WE x.W) Fn hgd (hr.mono hk) hb (L2N.passAt tk σ) I1 r q'
end
/-! ### the end of a law whose def is of this kind -/
theorem law_gd {P : Program} {w : World} {K : PySem.W.Frag} {mg mb : Str → Option Value} {C : CXT} {k : Nat} {fa a : Addr} {fd : FuncData} {x : Str} {sp : Sp} {t : Shared} {vs : List Value} {ns : List Int} (inK : K.In t.heap) (n1 : t.heap.Ns mainGlobals mg) (n2 : t.heap.Ns builtinsNs mb)
    (n3 : ∀ y : Str, y ≠ "__name__" → mb y = bootBuiltins y) (lim : t.heap.NoLimit) (g0 : t.gens = #[]) (ha : t.heap.get? a = some { cls := .type "list", data := .seq vs.toArray }) (hi : IntsAre vs ns) (hl : ns.length ≤ sizeLine) (hr : Room k callerA)
    (F : ∀ B : Heap, K.In B → B.Ns mainGlobals mg → FnG P w K mg B C k fa fd [x] sp) (hb : ∀ (s : Shared) (u : Value), BindsTo s fd ⟨[u], []⟩ [(x, u)])
    (hs : ∀ H : Hp, SqL K H a (ns.map V.int) → sp [.ref a] H (fun v _ => v = .bl true) fun _ _ _ => False) (hC : ∀ H e s', C [] H t (fun _ _ _ => False) e s' → False) :
    codeAny (model P w) callerA (.call (.ref fa) ⟨[.ref a], []⟩) (fun r s' => r = .ok (.ret (.bool true)) ∧ OldK t.heap s'.heap ∧ s'.os = t.os ∧ AllBare s'.gens) t := by
  have rv := vals_ints hi
  have lv := hi.length
  -- the heap by which the script may be tracked
  obtain ⟨H, hO, hS, hok, hA, hK⟩ : ∃ H : Hp, (∀ b, H b = none ∨ ∃ o xs, H b = some (.frz o (.lst xs))) ∧ SqL K H a (ns.map V.int) ∧ HOk P w H t.heap ∧ (∀ b, H b ≠ none → b = a) ∧ (H a ≠ none → K.lookup a = none) := by
    cases lk : K.lookup a with
    | some o =>
      have z := (inK a o lk).symm.trans ha
      cases z
      exact ⟨fun _ => none, fun _ => Or.inl rfl, Or.inr ⟨_, vs.toArray, _, lk, rfl, rfl, rfl, by rw [List.size_toArray, lv]; exact hl, by simpa using rv⟩, fun b u z => (nomatch z), fun b z => absurd rfl z, fun z => absurd rfl z⟩
    | none =>
      refine ⟨fun b => if b = a then some (.frz { cls := .type "list", data := .seq vs.toArray } (.lst (ns.map V.int))) else none, fun b => ?_, Or.inl (Or.inr ⟨_, if_pos rfl⟩), fun b u z => ?_, fun b z => ?_, fun _ => rfl⟩
      · dsimp only
        split
        · exact Or.inr ⟨_, _, rfl⟩
        · exact Or.inl rfl
      · dsimp only at z
        split at z
        · rename_i e
          cases z
          subst e
          exact ⟨ha, by rw [List.length_map]; exact hl, vs, _, rv, ha⟩
        · cases z
      · dsimp only at z
        split at z
        · assumption
        · exact absurd rfl z
  have free : ∀ {b : Addr} {o : Obj}, t.heap.get? b = some o → (b = a → H b = none) → H b = none := fun {b o} e h => by
    cases q : H b with
    | none => rfl
    | some u => exact q ▸ h (hA b (by rw [q]; exact fun z => nomatch z))
  have ns' : ∀ {b : Addr} {m : Str → Option Value}, t.heap.Ns b m → (hidT t.heap H).Ns b m := fun {b m} ⟨o, es, ep, e, d, r⟩ => ⟨o, es, ep, hidT_get e (free e fun z => by
    subst z
    rw [ha] at e
    cases e
    cases d), d, r⟩
  have inB : K.In (hidT t.heap H) := fun b o e => hidT_get (inK b o e) (by
    cases q : H b with
    | none => rfl
    | some u =>
      have z := hA b (by rw [q]; exact fun z => nomatch z)
      subst z
      rw [hK (by rw [q]; exact fun z => nomatch z)] at e
      cases e)
  have mo : Mod K mg (hidT t.heap H) := ⟨inB, ns' n1, ⟨mb, ns' n2, n3⟩, by obtain ⟨mc, y1, y2⟩ := lim; exact ⟨mc, ns' y1, y2⟩⟩
  have e0 : Env0 P w K mg (hidT t.heap H) callerA [] t H := ⟨rfl, mo, fun b o e => of_hidT e, Nat.le_of_eq (hidT_size _ _), trivial, (fun b z => (nomatch (show b ∈ ([] : List Addr) from z))), hok, .of_eq g0⟩
  refine codeAny_mono ((F _ inB (ns' n1)).go callerA [] t H _ [.ref a] [.ref a] _ _ rfl hr e0 (hb t (.ref a)) (.cons rfl .nil) (hs H hS)) fun r s' h => ?_
  match r, h with
  | .error e, h => exact (hC H e s' h).elim
  | .ok .next, h => exact h.elim
  | .ok .brk, h => exact h.elim
  | .ok .cont, h => exact h.elim
  | .ok (.ret u), ⟨v, H', os, bare, un, hok', r', q⟩ =>
    obtain rfl : v = .bl true := q
    obtain rfl : u = Value.bool true := r'
    refine ⟨rfl, OldK.of_keep fun b o e => ?_, os, bare⟩
    rcases hO b with z | ⟨ob, xs, z⟩
    · exact un.keep b o e z (fun y => (nomatch (show b ∈ ([] : List Addr) from y))) (fun y => nomatch y)
    · obtain ⟨y1, _⟩ := hok b _ z
      obtain ⟨y2, _⟩ := hok' b _ (un.frzs b ob _ z)
      exact y2.trans (y1.symm.trans e)
theorem walk_gd {l : PySem.W.OpenLaw} {n k : Nat} {q : Program} {loose : List Str} {XP : (Str → Option Value) → Heap → Prop} {YP : World → Heap → Prop} {d : DefRec} {K : Params → PySem.W.Frag} {C : World → CXT} {sp : World → Sp} {x : Str} (hn : l.most = some n) (hz : n ≤ sizeLine) (hdf : d.params.defaults = []) (hr : Room k callerA)
    (hY : ∀ (w : World) (h : Heap), YP w h → (K w.params).In h)
    (F : ∀ (w : World) (mg : Str → Option Value) (fa : Addr) (h : Heap), (K w.params).In h → h.Ns mainGlobals mg → mg d.name = some (.ref fa) → ∃ fd : FuncData, (∀ (s : Shared) (u : Value), BindsTo s fd ⟨[u], []⟩ [(x, u)]) ∧
      ∀ B : Heap, (K w.params).In B → B.Ns mainGlobals mg → FnG l.prog w (K w.params) mg B (C w) k fa fd [x] (sp w))
    (hs : ∀ (w : World) (H : Hp) (a : Addr) (ns : List Int), ns.length ≤ n → SqL (K w.params) H a (ns.map V.int) → sp w [.ref a] H (fun v _ => v = .bl true) fun _ _ _ => False)
    (hC : ∀ (w : World) (H : Hp) (s : Shared) (e : Value) (s' : Shared), C w [] H s (fun _ _ _ => False) e s' → False) : PySem.W.WalkO q loose XP YP l.row.toRowW d [] (fun f vs => PySem.call f vs) := by
  refine Att.attach_call hn hdf fun w s0 t mg mb fa o pm cd doc a vs ns G Y ho hd hcd hmg hobj hints hlen hg => ?_
  obtain ⟨fd, b1, b2⟩ := F w mg fa _ (hY w _ Y) G.T.g hmg
  exact law_gd (hY w _ Y) G.T.g G.T.b G.T.builtins G.T.nolimit hg hobj hints (Nat.le_trans hlen hz) hr b2 b1 (fun H hS => hs w H a ns hlen hS) fun H e s' => hC w H t e s'
/-! ### str of nested data -/
mutual
/-- small leaves -/
def smD : D → Bool
  | .non | .bl _ => true
  | .int i => decide (i.natAbs < 10 ^ 12)
  | .str x => decide (x.cps.size ≤ 12) && ((x.cps.toList.all fun c => decide (c < 16 ^ 8)) && PyData.strOk x)
  | .lst xs | .tup xs => smL xs
  | _ => false
def smL : List D → Bool
  | [] => true
  | x :: xs => smD x && smL xs
end
mutual
def szD : D → Nat
  | .lst xs | .tup xs => szL xs + 1
  | _ => 1
def szL : List D → Nat
  | [] => 0
  | x :: xs => szD x + szL xs
end
mutual
def dpD : D → Nat
  | .lst xs | .tup xs => dpL xs + 1
  | _ => 0
def dpL : List D → Nat
  | [] => 0
  | x :: xs => max (dpD x) (dpL xs)
end
def okS (d : D) : Bool := smD d && (decide (szD d ≤ 20000) && decide (dpD d ≤ 60))
mutual
theorem py_sm : ∀ d : D, smD d = true → (py d).showable = true ∧ (py d).hasDict = false ∧ (py d).leavesShort 13 = true ∧ (py d).weight + 1 ≤ 42 * szD d ∧ (py d).depth ≤ dpD d
  | .non, _ => ⟨by simp [py, PyData.showable], by simp [py, PyData.hasDict], by simp [py, PyData.leavesShort], by simp [py, PyData.weight, szD], by simp [py, PyData.depth]⟩
  | .bl b, _ => ⟨by simp [py, PyData.showable], by simp [py, PyData.hasDict], by simp [py, PyData.leavesShort], by simp [py, PyData.weight, szD], by simp [py, PyData.depth]⟩
  | .int i, h => by
    have h' : i.natAbs < 10 ^ 12 := by simpa [smD] using h
    have hl : i.natAbs.log2 < 40 := by
      by_cases z : i.natAbs = 0
      · rw [z]; decide
      · exact (Nat.log2_lt z).mpr (by omega)
    refine ⟨by simp [py, PyData.showable]; omega, by simp [py, PyData.hasDict], by simp [py, PyData.leavesShort]; exact PyData.shown_int_le h', ?_, by simp [py, PyData.depth]⟩
    simp only [py, PyData.weight, szD]
    split <;> omega
  | .str x, h => by
    have h' : x.cps.size ≤ 12 ∧ (x.cps.toList.all fun c => decide (c < 16 ^ 8)) = true := by
      simp only [smD, Bool.and_eq_true, decide_eq_true_eq] at h
      exact ⟨h.1, h.2.1⟩
    refine ⟨by simp [py, PyData.showable], by simp [py, PyData.hasDict], by simp only [py, PyData.leavesShort]; exact h'.2, ?_, by simp [py, PyData.depth]⟩
    simp only [py, PyData.weight, szD]
    omega
  | .lst xs, h => by
    obtain ⟨a, b, c, d, e⟩ := py_smL xs (by simpa [smD] using h)
    refine ⟨by simp only [py, PyData.showable]; exact a, by simp only [py, PyData.hasDict]; exact b, by simp only [py, PyData.leavesShort]; exact c, ?_, ?_⟩
    · simp only [py, PyData.weight, szD]; omega
    · simp only [py, PyData.depth, dpD]; omega
  | .tup xs, h => by
    obtain ⟨a, b, c, d, e⟩ := py_smL xs (by simpa [smD] using h)
    refine ⟨by simp only [py, PyData.showable]; exact a, by simp only [py, PyData.hasDict]; exact b, by simp only [py, PyData.leavesShort]; exact c, ?_, ?_⟩
    · simp only [py, PyData.weight, szD]; omega
    · simp only [py, PyData.depth, dpD]; omega
  | .obj _ _, h => by simp [smD] at h
  | .scr _, h => by simp [smD] at h
  | .ord _, h => by simp [smD] at h
theorem py_smL : ∀ ds : List D, smL ds = true → PyData.showableAll (pyL ds) = true ∧ PyData.hasDictAll (pyL ds) = false ∧ PyData.leavesShortAll 13 (pyL ds) = true ∧ PyData.weightAll (pyL ds) ≤ 42 * szL ds ∧ PyData.depthAll (pyL ds) ≤ dpL ds
  | [], _ => ⟨by simp [pyL, PyData.showableAll], by simp [pyL, PyData.hasDictAll], by simp [pyL, PyData.leavesShortAll], by simp [pyL, PyData.weightAll, szL], by simp [pyL, PyData.depthAll]⟩
  | x :: xs, h => by
    have h' : smD x = true ∧ smL xs = true := by simpa [smL] using h
    obtain ⟨a, b, c, d, e⟩ := py_sm x h'.1
    obtain ⟨a', b', c', d', e'⟩ := py_smL xs h'.2
    refine ⟨by simp [pyL, PyData.showableAll, a, a'], by simp [pyL, PyData.hasDictAll, b, b'], by simp [pyL, PyData.leavesShortAll, c, c'], ?_, ?_⟩
    · simp only [pyL, PyData.weightAll, szL]; omega
    · simp only [pyL, PyData.depthAll, dpL]; omega
end
section
variable {X : Cx} {x : Fx} {pins : List (Addr × Obj)} {σ : L2.St} {H : Hp} {s : Shared} {A : Ad}
mutual
theorem py_reads (I : Inv X pins σ H s) : ∀ {d : D} {v : V} {u : Value}, Rep X.K A H v d → RelV v u → smD d = true → ∃ as, Reads s.heap u (py d) as
  | .non, _, _, .non, r, _ => by cases r; exact ⟨_, by simp only [py]; exact .none⟩
  | .bl _, _, _, .bl b, r, _ => by cases r; exact ⟨_, by simp only [py]; exact .bool b⟩
  | .int _, _, _, .int i, r, _ => by obtain ⟨t, rfl⟩ := r; exact ⟨_, by simp only [py]; exact .int i t⟩
  | .str _, _, _, .str z, r, _ => by obtain ⟨t, rfl⟩ := r; exact ⟨_, by simp only [py]; exact .str z t⟩
  | .lst ds, _, _, .lst h q, r, hs => by
    cases r
    obtain ⟨its, rv, ⟨o, n, g1, g2, _, g4⟩, _⟩ := I.list (Or.inl (Or.inl h))
    obtain ⟨as, ra⟩ := py_readsL I q rv (by simpa [smD] using hs)
    exact ⟨_, by simp only [py]; exact .list g1 g2 g4 (by simpa using ra)⟩
  | .tup ds, _, _, .tup h q, r, hs => by
    cases r
    obtain ⟨its, rv, ⟨o, g1, g2, n, g4⟩, _⟩ := I.tuple (Or.inl (Or.inl h))
    obtain ⟨as, ra⟩ := py_readsL I q rv (by simpa [smD] using hs)
    exact ⟨_, by simp only [py]; exact .tuple g1 g2 g4 (by simpa using ra)⟩
  | .obj _ _, _, _, _, _, hs => by simp [smD] at hs
  | .scr _, _, _, _, _, hs => by simp [smD] at hs
  | .ord _, _, _, _, _, hs => by simp [smD] at hs
theorem py_readsL (I : Inv X pins σ H s) : ∀ {ds : List D} {vs : List V} {us : List Value}, RepL X.K A H vs ds → Vals vs us → smL ds = true → ∃ as, ReadsAll s.heap us (pyL ds) as
  | [], _, _, .nil, r, _ => by cases r; exact ⟨_, by simp only [pyL]; exact .nil⟩
  | d :: ds, _, _, .cons a b, .cons r r2, hs => by
    have h' : smD d = true ∧ smL ds = true := by simpa [smL] using hs
    obtain ⟨as, h1⟩ := py_reads I a r h'.1
    obtain ⟨bs, h2⟩ := py_readsL I b r2 h'.2
    exact ⟨_, by simp only [pyL]; exact .cons h1 h2⟩
end
def isSq : D → Bool
  | .lst _ | .tup _ => true
  | _ => false
theorem call_strD (hg : X.A.guards = some []) (hu : X.A.units + 64 < PySem.cLine) : CallR X (.type "str") (fun xs H Q => ∃ v d, xs = [v] ∧ Rep X.K A H v d ∧ isSq d = true ∧ okS d = true ∧ Q (.str (py d).shown) H) := by
  intro pins s σ H xs us Q I r h
  obtain ⟨v, d, rfl, rep, hq, ho, q⟩ := h
  have ho' : smD d = true ∧ szD d ≤ 20000 ∧ dpD d ≤ 60 := by simpa [okS] using ho
  obtain ⟨z1, z2, z3, z4, z5⟩ := py_sm d ho'.1
  cases r with
  | cons rv r0 =>
    cases r0
    obtain ⟨as, ra⟩ := py_reads I rep rv ho'.1
    obtain ⟨a, rfl⟩ : ∃ a, v = .ref a := by
      cases d with
      | lst _ => cases rep; exact ⟨_, rfl⟩
      | tup _ => cases rep; exact ⟨_, rfl⟩
      | _ => cases hq
    cases rv
    exact str_of_reads ra z1 (PyData.noDict_hsm z2) hg (by omega) (fun _ _ e => e) (fun h' u tk hk => ⟨.str _, H, I.kept hk, ⟨_, rfl⟩, q⟩) (PyData.shown_fits (B := 13) (by decide) (by decide) z3 (by omega))
/-- str of an int, of nested data -/
def dStrU (ds : List D) : EM D := match ds with
  | [.int i] => dStr [.int i]
  | [d] => if isSq d && okS d then ok (.str (py d).shown) else none
  | _ => none
theorem pk_strU {e : Expr} {p pos : Pos} {fs : Ro → EM (List D)} (hgd : X.A.guards = some []) (hu : X.A.units + 64 < PySem.cLine) (hm : X.mg "str" = none) (hg : Gl X "str") (ha : PA X [e] (tA X.K x .bw fs)) (he : starEach [e] X.env = (false, eval e X.env) :: starEach [] X.env := by rfl) : PE X (.Call (.Name "str" p) [e] [] pos) (tK X.K x .fz (eCall dStrU fs)) :=
  pk_ct (r := fun xs H Q => (∃ i, xs = [V.int i] ∧ i.natAbs.log2 < 1920 ∧ Q (.str (toString i)) H) ∨ ∃ v d, xs = [v] ∧ Rep X.K x.A H v d ∧ isSq d = true ∧ okS d = true ∧ Q (.str (py d).shown) H)
    (fun pins s σ H xs us Q I r h => by
      rcases h with h | h
      · exact call_str_int pins s σ H xs us Q I r h
      · exact call_strD (A := x.A) hgd hu pins s σ H xs us Q I r h)
    (fun F H σ vs ds q Q ex rv hq w => by
      unfold dStrU at hq
      split at hq
      · unfold dStr at hq
        dsimp only at hq
        split at hq
        · rename_i hl
          cases (Option.some.inj hq)
          obtain ⟨v, rfl, r1⟩ := rkl1 rv
          rw [rk_int r1]
          exact Or.inl ⟨_, rfl, hl, w.val ex (.str _) (by decide)⟩
        · cases hq
      · rename_i d _
        split at hq
        · rename_i hc
          have hc' : isSq d = true ∧ okS d = true := by simpa using hc
          cases (Option.some.inj hq)
          obtain ⟨v, rfl, r1⟩ := rkl1 rv
          exact Or.inr ⟨_, _, rfl, r1.all ex, hc'.1, hc'.2, w.val ex (.str _) (by decide)⟩
        · cases hq
      · cases hq) (fun ds y q => by
      unfold dStrU at q
      split at q
      · unfold dStr at q
        dsimp only at q
        split at q <;> cases q
      · split at q <;> cases q
      · cases q) hm (by decide +kernel) hg ha (he := he)
end
end Tw
/-! TwS: a walk along a list of one's own, which is left alone meanwhile. -/
namespace Tw
open PySem PySem.Spec PyProof.Rows L2
def is2 : Option Ent → Bool
  | some (.tk n) => n == 2
  | _ => false
def no2 (ρ : Ro) : Bool := ρ.all fun e => match e with
  | .tk n => n != 2
  | _ => true
theorem no2_of {ρ : Ro} (h : no2 ρ = true) {j n : Nat} (e : ρ[j]? = some (.tk n)) : n ≠ 2 := by
  have := List.all_eq_true.mp h _ (List.mem_of_getElem? e)
  simpa using this
def backO (i : Nat) (ds : List D) (ρ : Ro) : Option Ro := if (is2 ρ[i]? && no2 (ρ.set i .un)) = true then some (ρ.set i (.ow ds)) else none
def sForO (t : Tg) (i : Nat) (g : Ro → Option Fl) : Ro → Option Fl := fun ρ => match ρ[i]? with
  | some (.ow ds) => if no2 ρ = true then match forD t g ds (ρ.set i (.tk 2)) with
      | some (.nx ρ') => (backO i ds ρ').map .nx
      | some (.ex e ρ') => (backO i ds ρ').map (.ex e)
      | some (.rt d) => some (.rt d)
      | some (.rto es) => some (.rto es)
      | _ => none
    else none
  | _ => none
section
variable {K : PySem.W.Frag} {A : Ad} {T : Nat → V} {B F0 F F1 H : Hp} {σ : L2.St} {ρ : Ro} {i : Nat} {l : Addr} {vs : List V} {ds : List D}
def T2 (T : Nat → V) (l : Addr) : Nat → V := fun n => if n = 2 then .ref l else T n
theorem SR.lend (S : SR K A T B F0 F H σ ρ) (hi : ρ[i]? = some (.ow ds)) (h1 : σ[i]? = some (some (.ref l))) (h2 : F l = none) (h4 : H l = some (.lst vs)) (hn : no2 ρ = true) : SR K A (T2 T l) (upd B l (.lst vs)) F F H σ (ρ.set i (.tk 2)) where
  fh := S.fh
  bh := fun a o e => by
    by_cases q : a = l
    · subst q; rw [upd_same] at e; rw [← e]; exact h4
    · rw [upd_ne q] at e; exact S.bh a o e
  f0 := .refl _
  nw := fun _ _ _ => rfl
  len := by rw [List.length_set]; exact S.len
  fz := fun j d e => by
    rcases set_get e with ⟨rfl, q⟩ | ⟨q, e'⟩
    · cases q
    · exact S.fz j d e'
  ow := fun j es e => by
    rcases set_get e with ⟨rfl, q⟩ | ⟨q, e'⟩
    · cases q
    · obtain ⟨m, us, g1, g2, g3, g4, g5⟩ := S.ow j es e'
      refine ⟨m, us, g1, g2, ?_, g4, g5⟩
      have := S.sep j i es ds q e' hi
      rw [g1, h1] at this
      rw [upd_ne (fun z => this (by rw [z]))]
      exact g3
  sep := fun j k es fs hne hj hk => by
    rcases set_get hj with ⟨rfl, q⟩ | ⟨q, hj'⟩
    · cases q
    · rcases set_get hk with ⟨rfl, q2⟩ | ⟨q2, hk'⟩
      · cases q2
      · exact S.sep j k es fs hne hj' hk'
  tk := fun j n e => by
    rcases set_get e with ⟨rfl, q⟩ | ⟨q, e'⟩
    · cases q
      rw [h1]; rfl
    · rw [S.tk j n e']
      unfold T2
      rw [if_neg (no2_of hn e')]
theorem SR.unlend (f1 : Ex F0 F) (n1 : ∀ a o, B a = some o → F a = F0 a) (hb : B l = none) (hf : F l = none) (r : RepL K A F vs ds) (S : SR K A (T2 T l) (upd B l (.lst vs)) F F1 H σ ρ) (hi : is2 ρ[i]? = true) (hn : no2 (ρ.set i .un) = true) : SR K A T B F0 F1 H σ (ρ.set i (.ow ds)) := by
  have hi' : ρ[i]? = some (.tk 2) := by
    unfold is2 at hi
    split at hi
    · rename_i n e
      rw [e]
      simp at hi
      rw [hi]
    · cases hi
  have hl : σ[i]? = some (some (.ref l)) := S.tk i 2 hi'
  have bB : ∀ {a o}, B a = some o → upd B l (.lst vs) a = some o := fun {a o} e => by
    rw [upd_ne (ne_of_none e hb)]; exact e
  have lF : F1 l = none := by
    rw [S.nw l (.lst vs) upd_same]; exact hf
  have other : ∀ j es, j ≠ i → ρ[j]? = some (.ow es) → σ[j]? ≠ some (some (.ref l)) := fun j es hj e z => by
    obtain ⟨m, us, g1, g2, g3, g4, g5⟩ := S.ow j es e
    rw [g1] at z
    cases z
    rw [upd_same] at g3
    cases g3
  exact
  { fh := S.fh
    bh := fun a o e => S.bh a o (bB e)
    f0 := f1.trans S.f0
    nw := fun a o e => (S.nw a o (bB e)).trans (n1 a o e)
    len := by rw [List.length_set]; exact S.len
    fz := fun j d e => by
      rcases set_get e with ⟨rfl, q⟩ | ⟨q, e'⟩
      · cases q
      · exact S.fz j d e'
    ow := fun j es e => by
      rcases set_get e with ⟨rfl, q⟩ | ⟨q, e'⟩
      · cases q
        exact ⟨l, vs, hl, lF, hb, S.bh l _ upd_same, r.mono S.f0⟩
      · obtain ⟨m, us, g1, g2, g3, g4, g5⟩ := S.ow j es e'
        refine ⟨m, us, g1, g2, ?_, g4, g5⟩
        cases q2 : B m with
        | none => rfl
        | some o => rw [bB q2] at g3; cases g3
    sep := fun j k es fs hne hj hk => by
      rcases set_get hj with ⟨rfl, q⟩ | ⟨q, hj'⟩
      · rcases set_get hk with ⟨rfl, q2⟩ | ⟨q2, hk'⟩
        · exact absurd rfl hne
        · rw [hl]; exact fun z => other k fs q2 hk' z.symm
      · rcases set_get hk with ⟨rfl, q2⟩ | ⟨q2, hk'⟩
        · rw [hl]; exact other j es q hj'
        · exact S.sep j k es fs hne hj' hk'
    tk := fun j n e => by
      rcases set_get e with ⟨rfl, q⟩ | ⟨q, e'⟩
      · cases q
      · rw [S.tk j n e']
        unfold T2
        rw [if_neg (no2_of hn (show (ρ.set i .un)[j]? = some (.tk n) by rw [List.getElem?_set_ne (Ne.symm q)]; exact e'))] }
end
section
variable {X : Cx} {x : Fx} {pos : Pos}
abbrev Fx.re (x : Fx) (T' : Nat → V) (B' F' : Hp) : Fx := ⟨x.A, T', B', F', x.W⟩
theorem pks_forO {tg iter : Expr} {body : List Stmt} {t : Tg} {sl : List Nat} {i : Nat} {g : Ro → Option Fl} (hp : PassesOwn (model X.prog X.w) X.A X.env X.xe) (hc : X.calm = true) (hv : PE X iter (tVar i)) (hg : ∀ T' B' F', PG X tg (tG X.K (x.re T' B' F') sl t)) (hb : ∀ T' B' F', PSs X body (tS X.K (x.re T' B' F') g))
    (hs : ∀ z, foldedSetIterable iter X.env z = pure z := by intro _; rfl) : PS X (.For tg iter body [] pos) (tS X.K x (sForO t i g)) := by
  refine ⟨fun pins s σ H E I q => ?_⟩
  obtain ⟨F, ρ, fl, S, e, w⟩ := q
  unfold sForO at e
  split at e
  · rename_i ds hi
    split at e
    · rename_i hn
      obtain ⟨l, vs, h1, h2, h3, h4, h5⟩ := S.ow i ds hi
      have S1 := S.lend hi h1 h2 h4 hn
      have L : LentX X.K (x.re (T2 x.T l) (upd x.B l (.lst vs)) F) ds := ⟨l, vs, rfl, upd_same, h5⟩
      have base := pks_for (x := x.re (T2 x.T l) (upd x.B l (.lst vs)) F) (pos := pos) hp hc (pid_ln L hv) (hg _ _ _) (hb _ _ _) hs
      have lt : i < ρ.length := (List.getElem?_eq_some_iff.mp hi).1
      have fo : iLn i ds (ρ.set i (.tk 2)) = some (.ok ds) := by
        unfold iLn
        rw [List.getElem?_set_self lt]
        rfl
      refine base.run pins s σ H E I ⟨F, ρ.set i (.tk 2), ?_⟩
      have bB : Ex x.B (upd x.B l (.lst vs)) := fun a o z => by rw [upd_ne (ne_of_none z h3)]; exact z
      have back : ∀ {ρ' ρ2 : Ro} {F1 H1 : Hp} {σ1 : L2.St}, backO i ds ρ' = some ρ2 → SR X.K x.A (T2 x.T l) (upd x.B l (.lst vs)) F F1 H1 σ1 ρ' → SR X.K x.A x.T x.B x.F0 F1 H1 σ1 ρ2 := fun {ρ' ρ2 F1 H1 σ1} hbk S2 => by
        unfold backO at hbk
        split at hbk
        · rename_i hcnd
          cases (Option.some.inj hbk)
          rw [Bool.and_eq_true] at hcnd
          exact SR.unlend S.f0 S.nw h3 h2 h5 S2 hcnd.1 hcnd.2
        · cases hbk
      have gb : ∀ {F' H' : Hp}, Grow F (upd x.B l (.lst vs)) F' H' → Grow x.F0 x.B F' H' := fun {F' H'} G => ⟨S.f0.trans G.f, bB.trans G.h, G.i, fun a o z => (G.n a o (bB a o z)).trans (S.nw a o z)⟩
      have eF : sFor t (iLn i ds) g (ρ.set i (.tk 2)) = forD t g ds (ρ.set i (.tk 2)) := by
        unfold sFor
        rw [fo]
        rfl
      split at e
      · rename_i ρ' hf
        cases hbk : backO i ds ρ' with
        | none => rw [hbk] at e; cases e
        | some ρ2 =>
          rw [hbk] at e
          cases (Option.some.inj e)
          exact ⟨_, S1, eF.trans hf, fun F2 H2 σ2 ex S2 => w F2 H2 σ2 ex (back hbk S2)⟩
      · rename_i y ρ' hf
        cases hbk : backO i ds ρ' with
        | none => rw [hbk] at e; cases e
        | some ρ2 =>
          rw [hbk] at e
          cases (Option.some.inj e)
          exact ⟨_, S1, eF.trans hf, fun F2 H2 σ2 ex S2 => w F2 H2 σ2 ex (back hbk S2)⟩
      · rename_i d hf
        cases (Option.some.inj e)
        exact ⟨_, S1, eF.trans hf, fun F' H' v G r => w F' H' v (gb G) r⟩
      · rename_i es hf
        cases (Option.some.inj e)
        refine ⟨_, S1, eF.trans hf, fun F' H' m us G b0 f0 hm r => w F' H' m us (gb G) ?_ f0 hm r⟩
        cases q : x.B m with
        | none => rfl
        | some o => rw [show (x.re (T2 x.T l) (upd x.B l (.lst vs)) F).B m = some o from bB m o q] at b0; cases b0
      · cases e
    · cases e
  · cases e
end
end Tw
/-! TwT: a list of lists, built in place; a list of one's own, lent to an expression with a plain result. -/
namespace Tw
open PySem PySem.Spec PyProof.Rows L2
section
variable {K : PySem.W.Frag} {A : Ad} {T : Nat → V} {B F0 F F' H H' : Hp} {σ : L2.St} {ρ : Ro}
theorem SR.pre {τ : L2.St} {ρx : Ro} (S : SR K A T B F0 F H (σ ++ τ) (ρ ++ ρx)) (hl : τ.length = ρx.length) : SR K A T B F0 F H σ ρ := by
  have hn : σ.length = ρ.length := by
    have := S.len
    rw [List.length_append, List.length_append] at this
    omega
  have up : ∀ {j : Nat} {e : Ent}, ρ[j]? = some e → (ρ ++ ρx)[j]? = some e ∧ (σ ++ τ)[j]? = σ[j]? := fun {j e} h => by
    have lt := (List.getElem?_eq_some_iff.mp h).1
    exact ⟨by rw [List.getElem?_append_left lt]; exact h, by rw [List.getElem?_append_left (by omega)]⟩
  exact
  { fh := S.fh, bh := S.bh, f0 := S.f0, nw := S.nw, len := hn
    fz := fun j d e => by
      obtain ⟨v, h1, h2⟩ := S.fz j d (up e).1
      exact ⟨v, (up e).2 ▸ h1, h2⟩
    ow := fun j es e => by
      obtain ⟨l, vs, h1, h2⟩ := S.ow j es (up e).1
      exact ⟨l, vs, (up e).2 ▸ h1, h2⟩
    sep := fun j k es fs hne hj hk => by
      have := S.sep j k es fs hne (up hj).1 (up hk).1
      rw [(up hj).2, (up hk).2] at this
      exact this
    tk := fun j n e => (up e).2 ▸ S.tk j n (up e).1 }
/-- a new list of one's own, behind the others -/
theorem SR.addV {q : Addr} (S : SR K A T B F0 F H σ ρ) (hq : H q = none) : SR K A T B F0 F (upd H q (.lst [])) (σ ++ [some (.ref q)]) (ρ ++ [.ow []]) := by
  have fq := S.fh.free hq
  have bq := S.bh.free hq
  have up : ∀ {a : Addr} {o : HO}, H a = some o → upd H q (.lst []) a = some o := fun {a o} h => by rw [upd_ne (ne_of_none h hq)]; exact h
  have sp : ∀ {j : Nat} {e : Ent}, (ρ ++ [Ent.ow []])[j]? = some e → (ρ[j]? = some e ∧ (σ ++ [some (V.ref q)])[j]? = σ[j]?) ∨ (j = ρ.length ∧ e = .ow [] ∧ (σ ++ [some (V.ref q)])[j]? = some (some (.ref q))) := fun {j e} h => by
    by_cases lt : j < ρ.length
    · exact .inl ⟨by rw [List.getElem?_append_left lt] at h; exact h, by rw [List.getElem?_append_left (by rw [S.len]; exact lt)]⟩
    · rw [List.getElem?_append_right (by omega)] at h
      have lt2 := (List.getElem?_eq_some_iff.mp h).1
      simp at lt2
      have : j = ρ.length := by omega
      subst this
      rw [Nat.sub_self] at h
      cases h
      exact .inr ⟨rfl, rfl, by rw [List.getElem?_append_right (by rw [S.len]; exact Nat.le_refl _), S.len, Nat.sub_self]; rfl⟩
  exact
  { fh := fun a o h => up (S.fh a o h), bh := fun a o h => up (S.bh a o h), f0 := S.f0, nw := S.nw, len := by rw [List.length_append, List.length_append, S.len]; rfl
    fz := fun j d e => by
      rcases sp e with ⟨h1, h2⟩ | ⟨_, h2, _⟩
      · obtain ⟨v, g1, g2⟩ := S.fz j d h1
        exact ⟨v, h2.trans g1, g2⟩
      · cases h2
    ow := fun j es e => by
      rcases sp e with ⟨h1, h2⟩ | ⟨_, h2, h3⟩
      · obtain ⟨l, vs, g1, g2, g3, g4, g5⟩ := S.ow j es h1
        exact ⟨l, vs, h2.trans g1, g2, g3, up g4, g5⟩
      · cases h2
        exact ⟨q, [], h3, fq, bq, upd_same, .nil⟩
    sep := fun j k es fs hne hj hk => by
      have old : ∀ {j : Nat} {es : List D}, ρ[j]? = some (Ent.ow es) → σ[j]? ≠ some (some (V.ref q)) := fun {j es} h z => by
        obtain ⟨l, vs, g1, g2, g3, g4, g5⟩ := S.ow j es h
        rw [g1] at z
        cases z
        rw [hq] at g4
        cases g4
      rcases sp hj with ⟨h1, h2⟩ | ⟨h1, h2, h3⟩
      · rcases sp hk with ⟨k1, k2⟩ | ⟨k1, k2, k3⟩
        · rw [h2, k2]; exact S.sep j k es fs hne h1 k1
        · rw [h2, k3]; exact old h1
      · rcases sp hk with ⟨k1, k2⟩ | ⟨k1, k2, k3⟩
        · rw [h3, k2]; exact fun z => old k1 z.symm
        · exact absurd (h1.trans k1.symm) hne
    tk := fun j n e => by
      rcases sp e with ⟨h1, h2⟩ | ⟨_, h2, _⟩
      · exact h2.trans (S.tk j n h1)
      · cases h2 }
/-- all own lists behind n are frozen -/
theorem SR.freezeAll : ∀ (rows : List (List D)) (n : Nat) (F : Hp) (ρ : Ro), SR K A T B F0 F H σ ρ → (∀ (k : Nat) r, rows[k]? = some r → ρ[n + k]? = some (.ow r)) → ∃ F', Ex F F' ∧ ∃ ρ', SR K A T B F0 F' H σ ρ' ∧ ρ'.length = ρ.length ∧ (∀ j, j < n → ρ'[j]? = ρ[j]?) ∧ ∀ (k : Nat) r, rows[k]? = some r → ρ'[n + k]? = some (.fz (.lst r))
  | [], n, F, ρ, S, _ => ⟨F, .refl _, ρ, S, rfl, fun _ _ => rfl, fun k r h => by simp at h⟩
  | r :: rows, n, F, ρ, S, h => by
    have h0 := h 0 r rfl
    rw [Nat.add_zero] at h0
    obtain ⟨F1, e1, S1⟩ := S.freeze h0
    obtain ⟨F2, e2, ρ', S2, hl, hb, hr⟩ := SR.freezeAll rows (n + 1) F1 (ρ.set n (.fz (.lst r))) S1 (fun k q hk => by
      rw [List.getElem?_set_ne (by omega), Nat.add_assoc, Nat.add_comm 1 k]
      exact h (k + 1) q hk)
    refine ⟨F2, e1.trans e2, ρ', S2, by rw [hl, List.length_set], fun j hj => ?_, fun k q hk => ?_⟩
    · rw [hb j (by omega), List.getElem?_set_ne (by omega)]
    · cases k with
      | zero =>
        cases hk
        rw [Nat.add_zero, hb n (by omega), List.getElem?_set_self (List.getElem?_eq_some_iff.mp h0).1]
      | succ k =>
        have := hr k q hk
        rw [Nat.add_assoc, Nat.add_comm 1 k] at this
        exact this
end
abbrev vsOf (ls : List Addr) : L2.St := ls.map fun l => some (V.ref l)
abbrev rowsV (rows : List (List D)) : Ro := rows.map Ent.ow
/-- a list of own lists at p, named by the slot iw -/
structure NV (K : PySem.W.Frag) (x : Fx) (F H : Hp) (σ : L2.St) (ρ : Ro) (iw : Nat) (p : Addr) (ls : List Addr) (rows : List (List D)) : Prop where
  s : SR K x.A x.T (upd x.B p (.lst (ls.map V.ref))) x.F0 F H (σ ++ vsOf ls) (ρ ++ rowsV rows)
  hi : σ[iw]? = some (some (.ref p))
  ui : ρ[iw]? = some .un
  bp : x.B p = none
  fp : x.F0 p = none
  ll : ls.length = rows.length
section
variable {K : PySem.W.Frag} {x : Fx} {F F' H H' : Hp} {σ : L2.St} {ρ : Ro} {iw : Nat} {p : Addr} {ls : List Addr} {rows : List (List D)}
theorem SR.lessB {A : Ad} {T : Nat → V} {B B' F0 : Hp} (S : SR K A T B' F0 F H σ ρ) (e : Ex B B') : SR K A T B F0 F H σ ρ :=
  { fh := S.fh, bh := e.trans S.bh, f0 := S.f0, nw := fun a o h => S.nw a o (e a o h), len := S.len, fz := S.fz, sep := S.sep, tk := S.tk
    ow := fun j es h => by
      obtain ⟨l, vs, g1, g2, g3, g4, g5⟩ := S.ow j es h
      refine ⟨l, vs, g1, g2, ?_, g4, g5⟩
      cases q : B l with
      | none => rfl
      | some o => rw [e l o q] at g3; cases g3 }
theorem NV.len (N : NV K x F H σ ρ iw p ls rows) : (vsOf ls).length = (rowsV rows).length := by rw [List.length_map, List.length_map, N.ll]
theorem NV.sl (N : NV K x F H σ ρ iw p ls rows) : σ.length = ρ.length := by
  have := N.s.len
  rw [List.length_append, List.length_append, N.len] at this
  omega
theorem NV.pre (N : NV K x F H σ ρ iw p ls rows) : SR K x.A x.T x.B x.F0 F H σ ρ := (N.s.pre N.len).lessB (.new N.bp)
theorem NV.grow (N : NV K x F H σ ρ iw p ls rows) (G : Grow F H F' H') : NV K x F' H' σ ρ iw p ls rows := { N with s := N.s.grow G }
theorem NV.setF (N : NV K x F H σ ρ iw p ls rows) {i : Nat} {v : V} {d : D} (r : Rep K x.A F v d) (hi : i < ρ.length) (hn : i ≠ iw) : NV K x F H (σ.set i (some v)) (ρ.set i (.fz d)) iw p ls rows where
  s := by
    have := N.s.setF (i := i) r
    rw [List.set_append_left _ _ (by rw [N.sl]; exact hi), List.set_append_left _ _ hi] at this
    exact this
  hi := by rw [List.getElem?_set_ne hn]; exact N.hi
  ui := by rw [List.getElem?_set_ne hn]; exact N.ui
  bp := N.bp
  fp := N.fp
  ll := N.ll
theorem NV.row (N : NV K x F H σ ρ iw p ls rows) {k : Nat} {r : List D} (h : rows[k]? = some r) : ∃ l vs, ls[k]? = some l ∧ H l = some (.lst vs) ∧ RepL K x.A F vs r ∧ l ≠ p := by
  have hk : (ρ ++ rowsV rows)[ρ.length + k]? = some (.ow r) := by rw [List.getElem?_append_right (by omega), Nat.add_sub_cancel_left, List.getElem?_map, h]; rfl
  obtain ⟨l, vs, g1, g2, g3, g4, g5⟩ := N.s.ow _ _ hk
  rw [List.getElem?_append_right (by rw [N.sl]; omega), N.sl, Nat.add_sub_cancel_left, List.getElem?_map] at g1
  cases e : ls[k]? with
  | none => rw [e] at g1; cases g1
  | some l' =>
    rw [e] at g1
    cases g1
    exact ⟨_, vs, rfl, g4, g5, fun z => by rw [z, upd_same] at g3; cases g3⟩
theorem NV.write (N : NV K x F H σ ρ iw p ls rows) {k : Nat} {r es : List D} {l : Addr} {ws : List V} (h : rows[k]? = some r) (hl : ls[k]? = some l) (rw_ : RepL K x.A F ws es) : NV K x F (upd H l (.lst ws)) σ ρ iw p ls (rows.set k es) where
  s := by
    have hk : (ρ ++ rowsV rows)[ρ.length + k]? = some (.ow r) := by rw [List.getElem?_append_right (by omega), Nat.add_sub_cancel_left, List.getElem?_map, h]; rfl
    have hs : (σ ++ vsOf ls)[ρ.length + k]? = some (some (.ref l)) := by rw [List.getElem?_append_right (by rw [N.sl]; omega), N.sl, Nat.add_sub_cancel_left, List.getElem?_map, hl]; rfl
    have := N.s.write hk hs rw_
    rw [List.set_append_right _ _ (by omega), Nat.add_sub_cancel_left, ← List.map_set] at this
    exact this
  hi := N.hi
  ui := N.ui
  bp := N.bp
  fp := N.fp
  ll := by rw [List.length_set]; exact N.ll
theorem repL_refs {A : Ad} {F : Hp} : ∀ (ls : List Addr) (rows : List (List D)), ls.length = rows.length → (∀ (k : Nat) l r, ls[k]? = some l → rows[k]? = some r → Rep K A F (.ref l) (.lst r)) → RepL K A F (ls.map V.ref) (rows.map D.lst)
  | [], [], _, _ => .nil
  | l :: ls, r :: rows, h, f => .cons (f 0 l r rfl rfl) (repL_refs ls rows (by simpa using h) fun k l' r' h1 h2 => f (k + 1) l' r' h1 h2)
theorem NV.finish (N : NV K x F H σ ρ iw p ls rows) : ∃ F', Ex F F' ∧ SR K x.A x.T x.B x.F0 F' H σ (ρ.set iw (.fz (.lst (rows.map D.lst)))) := by
  obtain ⟨F1, e1, ρ', S1, hl, hb, hr⟩ := SR.freezeAll rows ρ.length F (ρ ++ rowsV rows) N.s fun k r h => by rw [List.getElem?_append_right (by omega), Nat.add_sub_cancel_left, List.getElem?_map, h]; rfl
  have hlw : iw < ρ.length := (List.getElem?_eq_some_iff.mp N.ui).1
  have f1p : F1 p = none := (S1.nw p _ upd_same).trans N.fp
  have hp : H p = some (.lst (ls.map V.ref)) := S1.bh p _ upd_same
  have rr : RepL K x.A F1 (ls.map V.ref) (rows.map D.lst) := repL_refs ls rows N.ll fun k l r h1 h2 => by
    obtain ⟨v, g1, g2⟩ := S1.fz _ _ (hr k r h2)
    rw [List.getElem?_append_right (by rw [N.sl]; omega), N.sl, Nat.add_sub_cancel_left, List.getElem?_map, h1] at g1
    cases g1
    exact g2
  have eB : Ex x.B (upd x.B p (.lst (ls.map V.ref))) := .new N.bp
  have e2 : Ex F1 (upd F1 p (.lst (ls.map V.ref))) := .new f1p
  -- the frame's own slots
  have old : ∀ {j : Nat} {e : Ent}, ρ[j]? = some e → ρ'[j]? = some e ∧ (σ ++ vsOf ls)[j]? = σ[j]? := fun {j e} h => by
    have lt := (List.getElem?_eq_some_iff.mp h).1
    exact ⟨by rw [hb j lt, List.getElem?_append_left lt]; exact h, List.getElem?_append_left (by rw [N.sl]; exact lt)⟩
  refine ⟨upd F1 p (.lst (ls.map V.ref)), e1.trans e2, ?_⟩
  exact
  { fh := fun a o h => by
      by_cases q : a = p
      · subst q; rw [upd_same] at h; rw [← h]; exact hp
      · rw [upd_ne q] at h; exact S1.fh a o h
    bh := eB.trans S1.bh
    f0 := S1.f0.trans e2
    nw := fun a o h => by
      rw [upd_ne (ne_of_none h N.bp)]
      exact S1.nw a o (eB a o h)
    len := by rw [List.length_set]; exact N.sl
    fz := fun j d h => by
      rcases set_get h with ⟨rfl, q⟩ | ⟨q, h'⟩
      · cases q
        exact ⟨_, N.hi, .lst upd_same (rr.mono e2)⟩
      · obtain ⟨v, g1, g2⟩ := S1.fz j d (old h').1
        exact ⟨v, (old h').2 ▸ g1, g2.mono e2⟩
    ow := fun j es h => by
      rcases set_get h with ⟨rfl, q⟩ | ⟨q, h'⟩
      · cases q
      · obtain ⟨l, vs, g1, g2, g3, g4, g5⟩ := S1.ow j es (old h').1
        have hne : l ≠ p := fun z => by rw [z, upd_same] at g3; cases g3
        refine ⟨l, vs, (old h').2 ▸ g1, by rw [upd_ne hne]; exact g2, ?_, g4, g5.mono e2⟩
        rw [upd_ne hne] at g3; exact g3
    sep := fun j k es fs hne hj hk => by
      rcases set_get hj with ⟨rfl, q⟩ | ⟨q, hj'⟩
      · cases q
      · rcases set_get hk with ⟨rfl, q2⟩ | ⟨q2, hk'⟩
        · cases q2
        · have := S1.sep j k es fs hne (old hj').1 (old hk').1
          rw [(old hj').2, (old hk').2] at this
          exact this
    tk := fun j n h => by
      rcases set_get h with ⟨rfl, q⟩ | ⟨q, h'⟩
      · cases q
      · exact (old h').2 ▸ S1.tk j n (old h').1 }
end
end Tw
/-! TwU: xs = [[] for y in ys]; for n in range(len(ys)): for o in ys[n]: xs[o].append(n). -/
namespace Tw
open PySem PySem.Spec PyProof.Rows L2
section
variable {K : PySem.W.Frag} {A : Ad} {T : Nat → V} {B F0 F F' H H' : Hp} {σ : L2.St} {ρ : Ro} {i : Nat}
/-- a slot of which nothing is known -/
theorem SR.setU (S : SR K A T B F0 F H σ ρ) {o : Option V} : SR K A T B F0 F H (σ.set i o) (ρ.set i .un) := by
  have old : ∀ {j : Nat} {e : Ent}, (ρ.set i .un)[j]? = some e → e ≠ .un → ρ[j]? = some e ∧ (σ.set i o)[j]? = σ[j]? := fun {j e} h hne => by
    rcases set_get h with ⟨rfl, q⟩ | ⟨q, h'⟩
    · exact absurd q.symm (fun z => hne z.symm)
    · exact ⟨h', by rw [List.getElem?_set_ne (Ne.symm q)]⟩
  exact
  { fh := S.fh, bh := S.bh, f0 := S.f0, nw := S.nw, len := by rw [List.length_set, List.length_set, S.len]
    fz := fun j d e => by
      obtain ⟨h1, h2⟩ := old e (fun z => nomatch z)
      obtain ⟨v, g1, g2⟩ := S.fz j d h1
      exact ⟨v, h2.trans g1, g2⟩
    ow := fun j es e => by
      obtain ⟨h1, h2⟩ := old e (fun z => nomatch z)
      obtain ⟨l, vs, g1, g2⟩ := S.ow j es h1
      exact ⟨l, vs, h2.trans g1, g2⟩
    sep := fun j k es fs hne hj hk => by
      obtain ⟨h1, h2⟩ := old hj (fun z => nomatch z)
      obtain ⟨k1, k2⟩ := old hk (fun z => nomatch z)
      rw [h2, k2]
      exact S.sep j k es fs hne h1 k1
    tk := fun j n e => by
      obtain ⟨h1, h2⟩ := old e (fun z => nomatch z)
      exact h2.trans (S.tk j n h1) }
theorem SR.moreB {p : Addr} {o : HO} (S : SR K A T B F0 F H σ ρ) (hF : F p = none) (h0 : F0 p = none) (hH : H p = some o) (hn : ∀ (j : Nat) es, ρ[j]? = some (.ow es) → σ[j]? ≠ some (some (.ref p))) : SR K A T (upd B p o) F0 F H σ ρ :=
  { fh := S.fh, f0 := S.f0, len := S.len, fz := S.fz, sep := S.sep, tk := S.tk
    bh := fun a u h => by
      by_cases q : a = p
      · subst q; rw [upd_same] at h; rw [← h]; exact hH
      · rw [upd_ne q] at h; exact S.bh a u h
    nw := fun a u h => by
      by_cases q : a = p
      · subst q; rw [hF, h0]
      · rw [upd_ne q] at h; exact S.nw a u h
    ow := fun j es h => by
      obtain ⟨l, vs, g1, g2, g3, g4, g5⟩ := S.ow j es h
      refine ⟨l, vs, g1, g2, ?_, g4, g5⟩
      rw [upd_ne]
      · exact g3
      · intro z
        subst z
        exact hn j es h g1 }
end
def nApp (rows : List (List D)) (j : Nat) (d : D) : Option (List (List D)) := match rows[j]? with
  | some r => if r.length < 1000000 then some (rows.set j (r ++ [d])) else none
  | none => none
def nRow (s : Nat) : List D → List (List D) → Option (List (List D))
  | [], rows => some rows
  | d :: ds, rows => match d with
    | .int i => if 0 ≤ i then (nApp rows i.toNat (.int (s : Int))).bind (nRow s ds) else none
    | _ => none
def nGo : List D → Nat → List (List D) → Option (List (List D))
  | [], _, rows => some rows
  | d :: ds, s, rows => match d with
    | .lst items => (nRow s items rows).bind (nGo ds (s + 1))
    | _ => none
def sNest (iw ia inn io : Nat) : Ro → Option Fl := fun ρ => match ρ[ia]? with
  | some (.fz (.lst ds)) => if (decide (iw < ρ.length) && (decide (inn < ρ.length) && decide (io < ρ.length)) && (decide (iw ≠ ia) && (decide (iw ≠ inn) && (decide (iw ≠ io) && (decide (inn ≠ io) && (decide (inn ≠ ia) && decide (io ≠ ia)))))) && decide (ds.length < 1000000)) = true then
      (nGo ds 0 (ds.map fun _ => [])).map fun rows => .nx (((ρ.set inn .un).set io .un).set iw (.fz (.lst (rows.map D.lst)))) else none
  | _ => none
section
variable {X : Cx} {x : Fx}
theorem nest_lc {iw ia j : Nat} {vs : List Nat} (hj : ∀ k ∈ [j], k ∈ vs) {E : Ends} {σ : L2.St} {H F : Hp} {ρ : Ro} {ds : List D} (S : SR X.K x.A x.T x.B x.F0 F H σ ρ) (ha : ρ[ia]? = some (.fz (.lst ds))) (hw : iw < ρ.length) (hz : ds.length < 1000000)
    (k : ∀ F' H' p ls, Ex F F' → NV X.K x F' H' (σ.set iw (some (.ref p))) (ρ.set iw .un) iw p ls (ds.map fun _ => []) → E.nx (σ.set iw (some (.ref p))) H') :
    tAsg (tLc (tI X.K x (iOf (eVar ia))) (tG X.K x.nox [j] (gN j)) (tT X.K x.nox bYes) (tLst tNil) vs) (gName iw) E σ H := by
  refine ⟨F, ρ, .ok ds, S, ?_, fun F1 H1 J Gq G1 eG lG hi => ?_⟩
  · unfold iOf eVar
    rw [ha]; rfl
  intro Dl hD
  have S1 := S.grow G1
  have D1 : F1 Dl = none := S1.fh.free hD
  have DB : x.B Dl = none := S1.bh.free hD
  have D0 : x.F0 Dl = none := S1.f0.free D1
  have hn : ∀ (j : Nat) es, ρ[j]? = some (.ow es) → σ[j]? ≠ some (some (.ref Dl)) := fun j es hj z => by
    obtain ⟨l, vs', q1, _, _, q4, _⟩ := S1.ow j es hj
    rw [q1] at z
    cases z
    rw [hD] at q4
    cases q4
  have hsl : σ.length = ρ.length := S.len
  -- no own list is the new one
  have noD : ∀ (ls : List Addr), Dl ∉ ls → ∀ (j : Nat) es, (ρ ++ rowsV (ls.map fun _ => []))[j]? = some (.ow es) → (σ ++ vsOf ls)[j]? ≠ some (some (.ref Dl)) := fun ls hls j es h z => by
    by_cases lt : j < ρ.length
    · rw [List.getElem?_append_left lt] at h
      rw [List.getElem?_append_left (by omega)] at z
      exact hn j es h z
    · rw [List.getElem?_append_right (by omega), List.getElem?_map] at z
      cases e : ls[j - σ.length]? with
      | none => rw [e] at z; cases z
      | some l =>
        rw [e] at z
        cases z
        exact hls (List.mem_of_getElem? e)
  let Iv : Nat → Hp → Prop := fun i H2 => ∃ F2 ls, ls.length = i ∧ i ≤ ds.length ∧ Ex F1 F2 ∧ SR X.K x.A x.T x.B x.F0 F2 H2 (σ ++ vsOf ls) (ρ ++ rowsV (ls.map fun _ => [])) ∧ F2 Dl = none ∧ H2 Dl = some (.lst (ls.map V.ref)) ∧ Dl ∉ ls
  refine ⟨fun i m H2 => m = ds.length - i ∧ Iv i H2, ⟨ds.length, rfl, F1, [], rfl, Nat.zero_le _, .refl _, ?_, D1, upd_same, List.not_mem_nil⟩, ?_⟩
  · show SR _ _ _ _ _ _ _ (σ ++ []) (ρ ++ [])
    rw [List.append_nil, List.append_nil]
    exact S1.other D1 DB hn
  rintro i m H2 ⟨rfl, F2, ls, hl, hle, e2, S2, D2, hH, hls⟩
  have Sp : SR X.K x.A x.T x.B x.F0 F2 H2 σ ρ := S2.pre (by simp)
  cases ed : ds[i]? with
  | none =>
    have hlen : ds.length ≤ i := List.getElem?_eq_none_iff.mp ed
    refine .inl ⟨hi.stop i H2 (e2.trans S2.fh) (eG.trans S2.bh) hlen, ?_⟩
    have he : ls.length = ds.length := by omega
    refine k F2 H2 Dl ls (G1.f.trans e2) ?_
    have hrows : (ls.map fun _ => ([] : List D)) = ds.map fun _ => [] := by
      rw [List.map_const', List.map_const', he]
    refine ⟨?_, by rw [List.getElem?_set_self (by omega)], by rw [List.getElem?_set_self hw], DB, D0, by rw [List.length_map]; exact he⟩
    rw [hrows] at S2
    have := (S2.moreB D2 D0 hH (by rw [← hrows]; exact noD ls hls)).setU (i := iw) (o := some (.ref Dl))
    rw [List.set_append_left _ _ (by omega), List.set_append_left _ _ hw] at this
    exact this
  | some d =>
    have hlt : i < ds.length := (List.getElem?_eq_some_iff.mp ed).1
    refine .inr ⟨hi.go i d H2 (e2.trans S2.fh) (eG.trans S2.bh) ed, fun H3 => Iv (i + 1) H3, fun H' n => ⟨ds.length - (i + 1), by omega, rfl, n⟩, fun v H3 hyl => ?_⟩
    obtain ⟨F3, G3, rv⟩ := hi.yld i d F2 H2 v H3 e2 S2.fh (eG.trans S2.bh) ed hyl
    have S3 := S2.grow G3
    have D3 : F3 Dl = none := (G3.n Dl _ hH).trans D2
    have hH3 := G3.h _ _ hH
    refine ⟨F3, _, d, _, (Sp.grow G3).wipe vs, rv, rfl, fun σ4 S4 l4 k4 => ⟨wipe_back l4 k4 hj, ?_⟩⟩
    refine ⟨F3, _, .ok true, S4, rfl, fun F5 H5 G5 => ?_⟩
    have S5 := S3.grow G5
    have D5 : F5 Dl = none := (G5.n Dl _ hH3).trans D3
    have hH5 := G5.h _ _ hH3
    refine iteT ?_
    refine ⟨Nat.zero_le _, fun q hq => ?_⟩
    have hqD : q ≠ Dl := fun z => by rw [z, hH5] at hq; cases hq
    have S6 := S5.addV hq
    have hH6 : upd H5 q (.lst []) Dl = some (.lst (ls.map V.ref)) := by rw [upd_ne (Ne.symm hqD)]; exact hH5
    refine ⟨ls.map V.ref, hH6, by rw [List.length_map]; have := sizeLine_eq; omega, F5, ls ++ [q], by rw [List.length_append, hl]; rfl, by omega, (e2.trans G3.f).trans G5.f, ?_, D5, by rw [upd_same, List.map_append]; rfl, ?_⟩
    · have eσ : σ ++ vsOf (ls ++ [q]) = σ ++ vsOf ls ++ [some (.ref q)] := by
        simp [vsOf]
      have eρ : ρ ++ rowsV ((ls ++ [q]).map fun _ => []) = ρ ++ rowsV (ls.map fun _ => []) ++ [.ow []] := by
        simp [rowsV]
      have no6 := noD (ls ++ [q]) (fun z => by
        rcases List.mem_append.mp z with y | y
        · exact hls y
        · exact hqD (List.mem_singleton.mp y).symm)
      rw [eσ, eρ] at no6 ⊢
      exact S6.other D5 DB no6
    · intro z
      rcases List.mem_append.mp z with y | y
      · exact hls y
      · exact hqD (List.mem_singleton.mp y).symm
def sameBut (inn io : Nat) (ρ ρ' : Ro) : Prop := ρ'.length = ρ.length ∧ ∀ j, j ≠ inn → j ≠ io → ρ'[j]? = ρ[j]?
theorem sameBut.set {inn io i : Nat} {ρ ρ' : Ro} {e : Ent} (h : sameBut inn io ρ ρ') (hi : i = inn ∨ i = io) : sameBut inn io ρ (ρ'.set i e) :=
  ⟨by rw [List.length_set]; exact h.1, fun j h1 h2 => by
    rw [List.getElem?_set_ne (by rcases hi with rfl | rfl; exact Ne.symm h1; exact Ne.symm h2)]
    exact h.2 j h1 h2⟩
theorem rep_int_v {K : PySem.W.Frag} {A : Ad} {H : Hp} {v : V} {i : Int} (r : Rep K A H v (.int i)) : v = .int i := by cases r; rfl
theorem nest_for {iw ia inn io : Nat} (h1 : inn ≠ iw) (h2 : io ≠ iw) (h3 : inn ≠ io) (h4 : inn ≠ ia) (h5 : io ≠ ia) {E : Ends} {σ : L2.St} {H F : Hp} {ρ : Ro} {ds : List D} {p : Addr} {ls : List Addr} {rows fin : List (List D)} (N : NV X.K x F H σ ρ iw p ls rows) (ha : ρ[ia]? = some (.fz (.lst ds))) (hn : inn < ρ.length) (ho : io < ρ.length) (hz : ds.length < 1000000)
    (hg : nGo ds 0 rows = some fin) (k : ∀ F' H' σ' ρ', Ex F F' → NV X.K x F' H' σ' ρ' iw p ls fin → sameBut inn io ρ ρ' → E.nx σ' H') :
    tFor (tI X.K x (iRg dRng1 (aCons (eCall dLen (aCons (eVarB ia) aNil)) aNil))) (gName inn) (tFor (tI X.K x (iOf (eOp dIx (eVarB ia) (eVarB inn)))) (gName io) (tDrop (tBM X.K "list" rAppend (tOp (rIxL X.K) (tVar iw) (tVar io)) (tCons (tVar inn) tNil)))) E σ H := by
  have er : iRg dRng1 (aCons (eCall dLen (aCons (eVarB ia) aNil)) aNil) ρ = some (.ok ((List.range ds.length).map fun (i : Nat) => .int (i : Int))) := by
    have e0 : eVarB ia ρ = some (.ok (.lst ds)) := by unfold eVarB; rw [ha]; rfl
    have e1 : eCall dLen (aCons (eVarB ia) aNil) ρ = some (.ok (.int ds.length)) := by
      show bnd (bnd (eVarB ia ρ) fun d => bnd (ok []) fun ds => ok (d :: ds)) dLen = _
      rw [e0]; rfl
    have e2 : dRng1 [.int (ds.length : Int)] = some (.ok ((List.range ds.length).map fun (i : Nat) => .int (i : Int))) := by
      unfold dRng1
      dsimp only
      rw [if_pos ⟨by omega, by omega⟩, Int.toNat_natCast]
      rfl
    show bnd (bnd (eCall dLen (aCons (eVarB ia) aNil) ρ) fun d => bnd (ok []) fun ds => ok (d :: ds)) dRng1 = _
    rw [e1, bnd_ok, show (ok ([] : List D) : EM (List D)) = some (.ok []) from rfl, bnd_ok, show (ok [D.int (ds.length : Int)] : EM (List D)) = some (.ok [D.int (ds.length : Int)]) from rfl, bnd_ok]
    exact e2
  refine ⟨F, ρ, .ok _, N.pre, er, fun F1 H1 J Gq G1 eG lG hi => ?_⟩
  refine ⟨fun i m σ' H' => m = ds.length - i ∧ i ≤ ds.length ∧ ∃ F' ρ' rows', Ex F1 F' ∧ NV X.K x F' H' σ' ρ' iw p ls rows' ∧ sameBut inn io ρ ρ' ∧ nGo (ds.drop i) i rows' = some fin, ⟨ds.length, rfl, Nat.zero_le _, F1, ρ, rows, .refl _, N.grow G1, ⟨rfl, fun _ _ _ => rfl⟩, hg⟩, ?_⟩
  rintro i m σ2 H2 ⟨rfl, hle, F2, ρ2, rows2, e2, N2, sb2, g2⟩
  by_cases hlt : i < ds.length
  · have edr : ((List.range ds.length).map fun (i : Nat) => D.int (i : Int))[i]? = some (.int (i : Int)) := by rw [List.getElem?_map, List.getElem?_range hlt]; rfl
    have hd : ds.drop i = ds[i] :: ds.drop (i + 1) := List.drop_eq_getElem_cons hlt
    rw [hd] at g2
    refine .inr ⟨hi.go i _ H2 (e2.trans N2.pre.fh) (eG.trans N2.pre.bh) edr, fun σ' H' => i + 1 ≤ ds.length ∧ ∃ F' ρ' rows', Ex F1 F' ∧ NV X.K x F' H' σ' ρ' iw p ls rows' ∧ sameBut inn io ρ ρ' ∧ nGo (ds.drop (i + 1)) (i + 1) rows' = some fin, fun σ' H' ⟨q1, q2⟩ => ⟨ds.length - (i + 1), by omega, rfl, q1, q2⟩, fun v H3 hy => ?_⟩
    obtain ⟨F3, G3, rv⟩ := hi.yld i _ F2 H2 v H3 e2 N2.pre.fh (eG.trans N2.pre.bh) edr hy
    have N3 := (N2.grow G3).setF (i := inn) rv (by rw [sb2.1]; exact hn) h1
    have sb3 := sb2.set (i := inn) (e := .fz (.int (i : Int))) (.inl rfl)
    have hlen3 : (ρ2.set inn (.fz (.int (i : Int)))).length = ρ.length := sb3.1
    have ha3 : (ρ2.set inn (.fz (.int (i : Int))))[ia]? = some (.fz (.lst ds)) := by rw [sb3.2 ia (Ne.symm h4) (Ne.symm h5)]; exact ha
    have hn3 : (ρ2.set inn (.fz (.int (i : Int))))[inn]? = some (.fz (.int (i : Int))) := List.getElem?_set_self (by rw [sb2.1]; exact hn)
    unfold nGo at g2
    cases hdi : ds[i] with
    | lst items =>
      rw [hdi] at g2
      dsimp only at g2
      cases hr : nRow i items rows2 with
      | none => rw [hr] at g2; cases g2
      | some rows3 =>
        rw [hr] at g2
        have g3 : nGo (ds.drop (i + 1)) (i + 1) rows3 = some fin := g2
        have ei : iOf (eOp dIx (eVarB ia) (eVarB inn)) (ρ2.set inn (.fz (.int (i : Int)))) = some (.ok items) := by
          unfold iOf eOp eVarB
          rw [ha3, hn3]
          show bnd ((atI ds (i : Int)).map Except.ok) dIt = _
          have : atI ds (i : Int) = some (.lst items) := by
            unfold atI ixN
            rw [if_pos (by omega), if_pos (by omega)]
            show ds[(i : Int).toNat]? = _
            rw [Int.toNat_natCast, List.getElem?_eq_getElem hlt, hdi]
          rw [this]; rfl
        refine ⟨F3, _, .ok items, N3.pre, ei, fun F4 H4 J4 Gq4 G4 eG4 lG4 hi4 => ?_⟩
        refine ⟨fun j m σ' H' => m = items.length - j ∧ ∃ F' ρ' rows', Ex F4 F' ∧ NV X.K x F' H' σ' ρ' iw p ls rows' ∧ sameBut inn io ρ ρ' ∧ ρ'[inn]? = some (.fz (.int (i : Int))) ∧ nRow i (items.drop j) rows' = some rows3, ⟨items.length, rfl, F4, _, rows2, .refl _, N3.grow G4, sb3, hn3, hr⟩, ?_⟩
        rintro j m σ5 H5 ⟨rfl, F5, ρ5, rows5, e5, N5, sb5, hn5, r5⟩
        cases ej : items[j]? with
        | none =>
          have hl : items.length ≤ j := List.getElem?_eq_none_iff.mp ej
          rw [List.drop_eq_nil_of_le hl] at r5
          cases (Option.some.inj r5)
          exact .inl ⟨hi4.stop j H5 (e5.trans N5.pre.fh) (eG4.trans N5.pre.bh) hl, by omega, F5, ρ5, rows3, ((e2.trans G3.f).trans G4.f).trans e5, N5, sb5, g3⟩
        | some d =>
          have hlj : j < items.length := (List.getElem?_eq_some_iff.mp ej).1
          have hdj : items.drop j = d :: items.drop (j + 1) := by
            rw [List.drop_eq_getElem_cons hlj, (List.getElem?_eq_some_iff.mp ej).2]
          rw [hdj] at r5
          refine .inr ⟨hi4.go j d H5 (e5.trans N5.pre.fh) (eG4.trans N5.pre.bh) ej, fun σ' H' => ∃ F' ρ' rows', Ex F4 F' ∧ NV X.K x F' H' σ' ρ' iw p ls rows' ∧ sameBut inn io ρ ρ' ∧ ρ'[inn]? = some (.fz (.int (i : Int))) ∧ nRow i (items.drop (j + 1)) rows' = some rows3, fun σ' H' q => ⟨items.length - (j + 1), by omega, rfl, q⟩, fun u H6 hyj => ?_⟩
          obtain ⟨F6, G6, ru⟩ := hi4.yld j d F5 H5 u H6 e5 N5.pre.fh (eG4.trans N5.pre.bh) ej hyj
          unfold nRow at r5
          cases d with
          | int q =>
            dsimp only at r5
            split at r5
            · rename_i hq
              obtain rfl := rep_int_v ru
              have N6 := (N5.grow G6).setF (i := io) ru (by rw [sb5.1]; exact ho) h2
              have sb6 := sb5.set (i := io) (e := .fz (.int q)) (.inr rfl)
              have hn6 : (ρ5.set io (.fz (.int q)))[inn]? = some (.fz (.int (i : Int))) := by rw [List.getElem?_set_ne (Ne.symm h3)]; exact hn5
              have ho6 : (ρ5.set io (.fz (.int q)))[io]? = some (.fz (.int q)) := List.getElem?_set_self (by rw [sb5.1]; exact ho)
              unfold nApp at r5
              cases hrow : rows5[q.toNat]? with
              | none => rw [hrow] at r5; cases r5
              | some r =>
                rw [hrow] at r5
                dsimp only at r5
                split at r5
                · rename_i hsz
                  obtain ⟨l, ws, hl, hHl, rl, _⟩ := N6.row hrow
                  obtain ⟨vi, g1, g2'⟩ := N6.pre.fz _ _ hn6
                  obtain rfl := rep_int_v g2'
                  obtain ⟨vo, o1, o2⟩ := N6.pre.fz _ _ ho6
                  obtain rfl := rep_int_v o2
                  have hat : atI (ls.map V.ref) q = some (.ref l) := by
                    have hlq : q.toNat < ls.length := (List.getElem?_eq_some_iff.mp hl).1
                    unfold atI ixN
                    rw [if_pos hq, if_pos (by rw [List.length_map]; omega)]
                    show (ls.map V.ref)[q.toNat]? = _
                    rw [List.getElem?_map, hl]; rfl
                  refine ⟨.ref p, N6.hi, .int q, o1, p, ls.map V.ref, q, .ref l, rfl, rfl, .inl (.of (N6.s.bh p _ upd_same)), hat, .inl ⟨rfl, ws, .inl (.of hHl)⟩, .int (i : Int), g1, l, ws, .int (i : Int), rfl, rfl, hHl, by rw [rl.length]; have := sizeLine_eq; omega, ?_⟩
                  exact ⟨F6, _, _, e5.trans G6.f, N6.write hrow hl (rl.app (.one (.int _))), sb6, hn6, r5⟩
                · cases r5
            · cases r5
          | _ => cases r5
    | _ => rw [hdi] at g2; cases g2
  · have hge : ds.length ≤ i := by omega
    rw [List.drop_eq_nil_of_le hge] at g2
    cases (Option.some.inj g2)
    exact .inl ⟨hi.stop i H2 (e2.trans N2.pre.fh) (eG.trans N2.pre.bh) (by rw [List.length_map, List.length_range]; exact hge), k F2 H2 σ2 ρ2 (G1.f.trans e2) N2 sb2⟩
theorem pks_nest {st1 st2 : Stmt} {rest : List Stmt} {iw ia inn io j : Nat} {vs : List Nat} {g : Ro → Option Fl} (hj : ∀ k ∈ [j], k ∈ vs) (h1 : PS X st1 (tAsg (tLc (tI X.K x (iOf (eVar ia))) (tG X.K x.nox [j] (gN j)) (tT X.K x.nox bYes) (tLst tNil) vs) (gName iw)))
    (h2 : PS X st2 (tFor (tI X.K x (iRg dRng1 (aCons (eCall dLen (aCons (eVarB ia) aNil)) aNil))) (gName inn) (tFor (tI X.K x (iOf (eOp dIx (eVarB ia) (eVarB inn)))) (gName io) (tDrop (tBM X.K "list" rAppend (tOp (rIxL X.K) (tVar iw) (tVar io)) (tCons (tVar inn) tNil))))))
    (h3 : PSs X rest (tS X.K x g)) : PSs X (st1 :: st2 :: rest) (tS X.K x (sSeq (sNest iw ia inn io) g)) :=
  pss_wk (pss_cons h1 (pss_cons h2 h3)) fun E σ H ⟨F, ρ, fl, S, e, w⟩ => by
    unfold sSeq sNest at e
    split at e
    · rename_i ρ' hs
      split at hs
      · rename_i ds ha
        split at hs
        · rename_i hc
          simp only [Bool.and_eq_true, decide_eq_true_eq] at hc
          obtain ⟨⟨⟨c1, c2, c3⟩, c4, c5, c6, c7, c8, c9⟩, c10⟩ := hc
          cases hg : nGo ds 0 (ds.map fun _ => []) with
          | none => rw [hg] at hs; cases hs
          | some fin =>
            rw [hg] at hs
            cases (Option.some.inj hs)
            refine nest_lc hj S ha c1 c10 fun F1 H1 p ls e1 N1 => ?_
            have ha1 : (ρ.set iw .un)[ia]? = some (.fz (.lst ds)) := by rw [List.getElem?_set_ne c4]; exact ha
            refine nest_for (Ne.symm c5) (Ne.symm c6) c7 c8 c9 N1 ha1 (by rw [List.length_set]; exact c2) (by rw [List.length_set]; exact c3) c10 hg fun F2 H2 σ2 ρ2 e2 N2 sb => ?_
            obtain ⟨F3, e3, S3⟩ := N2.finish
            have S4 := (S3.drop (i := inn)).drop (i := io)
            have eq : (((ρ2.set iw (.fz (.lst (fin.map D.lst)))).set inn .un).set io .un) = ((ρ.set inn .un).set io .un).set iw (.fz (.lst (fin.map D.lst))) := by
              have hl2 : ρ2.length = ρ.length := by rw [sb.1, List.length_set]
              apply List.ext_getElem?
              intro t
              by_cases t1 : t = iw
              · subst t1
                rw [List.getElem?_set_ne (Ne.symm c6), List.getElem?_set_ne (Ne.symm c5), List.getElem?_set_self (by omega), List.getElem?_set_self (by rw [List.length_set, List.length_set]; omega)]
              · rw [List.getElem?_set_ne (Ne.symm t1) (l := (ρ.set inn .un).set io .un)]
                by_cases t2 : t = io
                · subst t2
                  rw [List.getElem?_set_self (by rw [List.length_set, List.length_set]; omega), List.getElem?_set_self (by rw [List.length_set]; omega)]
                · rw [List.getElem?_set_ne (Ne.symm t2), List.getElem?_set_ne (Ne.symm t2)]
                  by_cases t3 : t = inn
                  · subst t3
                    rw [List.getElem?_set_self (by rw [List.length_set]; omega), List.getElem?_set_self (by omega)]
                  · rw [List.getElem?_set_ne (Ne.symm t3), List.getElem?_set_ne (Ne.symm t3), List.getElem?_set_ne (Ne.symm t1), sb.2 t t3 t2, List.getElem?_set_ne (Ne.symm t1)]
            rw [eq] at S4
            exact ⟨F3, _, fl, S4, e, w.mono ((e1.trans e2).trans e3)⟩
        · cases hs
      · cases hs
    · rename_i hno
      split at e
      · rename_i ds ha
        split at e
        · cases hg : nGo ds 0 (ds.map fun _ => []) with
          | none => rw [hg] at e; cases e
          | some fin =>
            exfalso
            rename_i hc
            refine hno (((ρ.set inn .un).set io .un).set iw (.fz (.lst (fin.map D.lst)))) ?_
            rw [ha]
            dsimp only
            rw [if_pos hc, hg]
            rfl
        · cases e
      · cases e
end
/-! ### a list of one's own, lent to an expression with a plain result -/
def scal : D → Bool
  | .non | .bl _ | .int _ | .str _ => true
  | _ => false
def eLend (i : Nat) (f : Ro → EM D) : Ro → EM D := fun ρ => match ρ[i]? with
  | some (.ow ds) => match f (ρ.set i (.fz (.lst ds))) with
    | some (.ok d) => if scal d = true then ok d else none
    | some (.error y) => some (.error y)
    | none => none
  | some (.fz _) => f ρ
  | _ => none
section
variable {X : Cx} {x : Fx} {a : Expr} {f : Ro → EM D} {i : Nat}
theorem rep_scal {K : PySem.W.Frag} {A : Ad} {H H' : Hp} {v : V} {d : D} (r : Rep K A H v d) (h : scal d = true) : Rep K A H' v d := by
  cases r <;> first | exact .non | exact .bl _ | exact .int _ | exact .str _ | cases h
theorem pk_lend (h : PE X a (tK X.K x .fz f)) : PE X a (tK X.K x .fz (eLend i f)) := pe_wk h fun σ H Q ⟨F, ρ, r, S, e, w⟩ => by
  unfold eLend at e
  split at e
  · rename_i ds hi
    obtain ⟨F1, e1, S1⟩ := S.freeze hi
    have back : ∀ {F' H' : Hp}, Grow F1 H F' H' → Grow F H F H' := fun {F' H'} G => ⟨.refl _, G.h, S.fh.trans G.h, fun _ _ _ => rfl⟩
    cases ef : f (ρ.set i (.fz (.lst ds))) with
    | none => rw [ef] at e; cases e
    | some q =>
      rw [ef] at e
      cases q with
      | error y =>
        cases (Option.some.inj e)
        exact ⟨F1, _, .error y, S1, ef, fun F' H' dd G xr => w F H' dd (back G) xr⟩
      | ok d =>
        dsimp only at e
        split at e
        · rename_i hs
          cases (Option.some.inj e)
          exact ⟨F1, _, .ok d, S1, ef, fun F' H' v G rv => w F H' v (back G) (rep_scal rv hs)⟩
        · cases e
  · exact ⟨F, ρ, r, S, e, w⟩
  · cases e
end
end Tw
namespace Tw
open PySem PySem.Spec PyProof.Rows L2
/-! ### xs[i] += e of a list of one's own -/
section
variable {X : Cx} {x : Fx} {a b c : Expr}
def rGetL (K : PySem.W.Frag) : V → V → Hp → VK → Prop := fun o i H Q => ∃ p xs k v, o = .ref p ∧ i = .int k ∧ 0 ≤ k ∧ SqL K H p xs ∧ xs[k.toNat]? = some v ∧ Q v H
theorem get_list : PGet X (rGetL X.K) := by
  intro pins s σ H o i ov iv Q I ro ri h
  obtain ⟨p, xs, k, v, rfl, rfl, hk, hq, hv, q⟩ := h
  cases ro
  obtain ⟨t, rfl⟩ := ri
  obtain ⟨its, r, pl, hz⟩ := I.list hq
  obtain ⟨w, ew, rw'⟩ := r.get hv
  have hlt : k.toNat < xs.length := (List.getElem?_eq_some_iff.mp hv).1
  have hn := line63
  exact wpAny_getItem_list pl.isList hk (by omega) (by simpa using ew) ⟨v, H, I, rw', q⟩
def sAugI (i : Nat) (h : D → D → EM D) (f g : Ro → EM D) : Ro → Option Fl := fun ρ => match ρ[i]? with
  | some (.ow ds) => toS ρ (f ρ) fun j => match j with
    | .int k => if 0 ≤ k then match ds[k.toNat]? with
        | some d => toS ρ (g ρ) fun e => toS ρ (h d e) fun z => some (.nx (ρ.set i (.ow (ds.set k.toNat z))))
        | none => none
      else none
    | _ => none
  | _ => none
theorem pks_augI {i : Nat} {f g : Ro → EM D} {h : D → D → EM D} {r : R2} {st : Stmt} (hr : Op2 X.K x .fz r h) (hn : NoX h) (hst : ∀ to ti te, PE X a to → PE X b ti → PE X c te → PS X st (tAugS to ti te (rGetL X.K) r rSetL)) (ha : PE X a (tVar i)) (hb : PE X b (tK X.K x .bw f)) (hc : PE X c (tK X.K x .bw g)) : PS X st (tS X.K x (sAugI i h f g)) :=
  ps_wk (hst _ _ _ ha hb hc) fun E σ H ⟨F, ρ, fl, S, e, w⟩ => by
    unfold sAugI at e
    split at e
    · rename_i ds hi
      obtain ⟨l, vs, h1, h2, h3, h4, h5⟩ := S.ow i ds hi
      refine ⟨.ref l, h1, ?_⟩
      exact ts_step S e w fun j F1 H1 u G1 S1 r1 e1 w1 => by
        split at e1
        · rename_i k
          split at e1
          · rename_i hk
            split at e1
            · rename_i d hd
              obtain rfl := rk_int r1
              obtain ⟨v, hv, rv⟩ := h5.get hd
              have hlt : k.toNat < vs.length := (List.getElem?_eq_some_iff.mp hv).1
              have hix : ixN vs.length k = some k.toNat := by
                unfold ixN
                rw [if_pos hk, if_pos (by omega)]
              refine ⟨l, vs, k, v, rfl, rfl, hk, .inl (.of (G1.h _ _ h4)), hv, ?_⟩
              exact ts_step S1 e1 w1 fun ee F2 H2 u2 G2 S2 r2 e2 w2 => by
                cases ez : h d ee with
                | none => rw [ez] at e2; cases e2
                | some q =>
                  rw [ez] at e2
                  cases q with
                  | error y => exact absurd ez (hn d ee y)
                  | ok z =>
                    cases (Option.some.inj e2)
                    refine hr F2 H2 σ v u2 d ee z _ S2.fh (.inl ((rv.mono G1.f).mono G2.f)) r2 ez ?_
                    intro F3 H3 v3 G3 r3
                    have S3 := S2.grow G3
                    exact ⟨l, vs, k, k.toNat, rfl, rfl, G3.h _ _ (G2.h _ _ (G1.h _ _ h4)), hix, w2 _ _ _ G3.f (S3.write hi h1 ((((h5.mono G1.f).mono G2.f).mono G3.f).set k.toNat r3))⟩
            · cases e1
          · cases e1
        · cases e1
    · cases e
end
end Tw
/-! TwW: a comprehension whose element may refuse; refusals with a field: made, read, isinstance. -/
namespace Tw
open PySem PySem.Spec PyProof.Rows L2
open L2H (RoomH Hot1 PinOk cxH inv_startH)
def lcE (t : Tg) (p : Ro → EM Bool) (f : Ro → EM D) (ρ : Ro) : List D → EM (List D)
  | [] => ok []
  | d :: ds => match t d ρ with
    | none => none
    | some ρ1 => match p ρ1 with
      | some (.ok true) => match f ρ1 with
        | some (.ok y) => bnd (lcE t p f ρ ds) fun ys => ok (y :: ys)
        | some (.error e) => some (.error e)
        | none => none
      | some (.ok false) => lcE t p f ρ ds
      | _ => none
def lcFin : EM (List D) → EM D
  | some (.ok ys) => ok (.lst ys)
  | some (.error e) => some (.error e)
  | none => none
def eLcE (vs : List Nat) (t : Tg) (fi : Ro → EM (List D)) (p : Ro → EM Bool) (f : Ro → EM D) : Ro → EM D := fun ρ => bnd (fi ρ) fun ds => if ds.length < sizeLine then lcFin (lcE t p f (wipeE ρ vs) ds) else none
def cmbE (a : List D) : Except Xn (List D) → Except Xn (List D)
  | .ok r => .ok (a ++ r)
  | .error e => .error e
section
variable {X : Cx} {x : Fx} {a b c e : Expr} {es : List Expr} {pos p : Pos} {f g : Ro → EM D} {fs : Ro → EM (List D)} {k : Kd}
theorem lcE_rd {K : PySem.W.Frag} {fi : Ro → EM (List D)} {q : Ro → EM Bool} {t : Tg} {sl vs : List Nat} (hK : X.K = K) (hk : k ≠ .bw) (hs : ∀ j ∈ sl, j ∈ vs) (hW : ∀ c d σ σ' H, x.W c d σ H → x.W c d σ' H) {σ : L2.St} {H : Hp} {Q : VK} (h : tK X.K x k (eLcE vs t fi q f) σ H Q) :
    tLc (tI X.K x fi) (tG X.K x.nox sl t) (tT X.K x.nox q) (tK X.K x .fz f) vs σ H Q := by
  obtain ⟨F, ρ, r, S, e, w⟩ := h
  refine tie_step S e w.x fun ds F1 H1 J Gq G1 S1 eG lG hi e1 => ?_
  intro Dl hD
  split at e1
  rotate_left
  · cases e1
  rename_i hz
  cases hy : lcE t q f (wipeE ρ vs) ds with
  | none => rw [hy] at e1; cases e1
  | some r0 =>
    rw [hy] at e1
    have D1 : F1 Dl = none := S1.fh.free hD
    have DB : x.B Dl = none := S1.bh.free hD
    have hn : ∀ (j : Nat) es, ρ[j]? = some (.ow es) → σ[j]? ≠ some (some (.ref Dl)) := fun j es hj z => by
      obtain ⟨l, vs', q1, _, _, q4, _⟩ := S1.ow j es hj
      rw [q1] at z
      cases z
      rw [hD] at q4
      cases q4
    refine ⟨fun i m H2 => m = ds.length - i ∧ ∃ F2 acc accd r2, Grow F1 H1 F2 H2 ∧ SR X.K x.A x.T x.B x.F0 F2 H2 σ ρ ∧ F2 Dl = none ∧ H2 Dl = some (.lst acc) ∧ RepL X.K x.A F2 acc accd ∧ lcE t q f (wipeE ρ vs) (ds.drop i) = some r2 ∧ r0 = cmbE accd r2 ∧ accd.length ≤ i,
      ⟨ds.length, rfl, F1, [], [], r0, Grow.raw S1.fh hD, S1.other D1 DB hn, D1, upd_same, .nil, hy, by cases r0 <;> rfl, Nat.le_refl _⟩, ?_⟩
    rintro i m H2 ⟨rfl, F2, acc, accd, r2, G2, S2, D2, hl, ra, hr, ey, hal⟩
    cases ed : ds[i]? with
    | none =>
      have hlen : ds.length ≤ i := List.getElem?_eq_none_iff.mp ed
      rw [List.drop_eq_nil_of_le hlen] at hr
      cases (Option.some.inj hr)
      have ey' : r0 = .ok accd := by rw [ey]; show Except.ok (accd ++ []) = _; rw [List.append_nil]
      subst ey'
      cases (Option.some.inj e1)
      refine .inl ⟨hi.stop i H2 (G2.f.trans G2.i) (eG.trans S2.bh) hlen, ?_⟩
      have wo : Wd X.K x .ow (.ok (.lst accd)) F H σ Q := by
        cases k with
        | ow => exact w
        | bw => exact absurd rfl hk
        | fz =>
          intro F' H' v G r
          obtain ⟨l, vs', ds', e1', e2', e0', e5', e3', e4'⟩ := r
          subst e1'
          cases e2'
          have ex' : Ex F' (upd F' l (.lst vs')) := .new e5'
          refine w (upd F' l (.lst vs')) H' (.ref l) ⟨G.f.trans ex', G.h, fun c o hc => ?_, fun c o hc => ?_⟩ (Rep.lst upd_same (e4'.mono ex'))
          · by_cases q : c = l
            · subst q; rw [upd_same] at hc; rw [← hc]; exact e3'
            · rw [upd_ne q] at hc; exact G.i c o hc
          · rw [upd_ne (ne_of_none hc e0')]
            exact G.n c o hc
      exact wo F2 H2 (.ref Dl) (G1.trans G2) ⟨Dl, acc, accd, rfl, rfl, G1.h.free hD, D2, hl, ra⟩
    | some d =>
      have hlt : i < ds.length := (List.getElem?_eq_some_iff.mp ed).1
      have hd : ds.drop i = d :: ds.drop (i + 1) := by
        rw [List.drop_eq_getElem_cons hlt, (List.getElem?_eq_some_iff.mp ed).2]
      rw [hd] at hr
      refine .inr ⟨hi.go i d H2 (G2.f.trans G2.i) (eG.trans S2.bh) ed, fun H3 => ∃ F3 acc accd r2, Grow F1 H1 F3 H3 ∧ SR X.K x.A x.T x.B x.F0 F3 H3 σ ρ ∧ F3 Dl = none ∧ H3 Dl = some (.lst acc) ∧ RepL X.K x.A F3 acc accd ∧ lcE t q f (wipeE ρ vs) (ds.drop (i + 1)) = some r2 ∧ r0 = cmbE accd r2 ∧ accd.length ≤ i + 1,
        fun H' n => ⟨ds.length - (i + 1), by omega, rfl, n⟩, fun v H3 hyl => ?_⟩
      obtain ⟨F3, G3, rv⟩ := hi.yld i d F2 H2 v H3 G2.f S2.fh (eG.trans S2.bh) ed hyl
      have S3 := S2.grow G3
      have D3 : F3 Dl = none := (G3.n Dl _ hl).trans D2
      have hl3 := G3.h _ _ hl
      have ra3 := ra.mono G3.f
      unfold lcE at hr
      cases et : t d (wipeE ρ vs) with
      | none => rw [et] at hr; cases hr
      | some ρ1 =>
        rw [et] at hr
        dsimp only at hr
        refine ⟨F3, _, d, ρ1, S3.wipe vs, rv, et, fun σ4 S4 l4 k4 => ⟨wipe_back l4 k4 hs, ?_⟩⟩
        cases eq : q ρ1 with
        | none => rw [eq] at hr; cases hr
        | some bq =>
          rw [eq] at hr
          cases bq with
          | error y => cases hr
          | ok b =>
            refine ⟨F3, ρ1, .ok b, S4, eq, fun F5 H5 G5 => ?_⟩
            have S5 := S4.grow G5
            have D5 : F5 Dl = none := (G5.n Dl _ hl3).trans D3
            have hl5 := G5.h _ _ hl3
            have ra5 := ra3.mono G5.f
            have G15 : Grow F1 H1 F5 H5 := (G2.trans G3).trans G5
            have SS5 := S3.grow G5
            cases b with
            | false =>
              refine iteF ⟨F5, acc, accd, r2, G15, SS5, D5, hl5, ra5, hr, ey, Nat.le_succ_of_le hal⟩
            | true =>
              refine iteT ?_
              dsimp only at hr
              cases ef : f ρ1 with
              | none => rw [ef] at hr; cases hr
              | some rf =>
                rw [ef] at hr
                cases rf with
                | error y =>
                  cases (Option.some.inj hr)
                  subst ey
                  cases (Option.some.inj e1)
                  refine ⟨F5, ρ1, .error y, S5, ef, fun F6 H6 dd G6 xr => hW _ _ σ _ _ ?_⟩
                  exact (w : Wx X.K x F H σ y) F6 H6 dd ((G1.trans G15).trans G6) xr
                | ok y =>
                  refine ⟨F5, ρ1, .ok y, S5, ef, fun F6 H6 u G6 ru => ?_⟩
                  have ru' : Rep X.K x.A F6 u y := ru
                  have D6 : F6 Dl = none := (G6.n Dl _ hl5).trans D5
                  have hl6 := G6.h _ _ hl5
                  have ra6 := ra5.mono G6.f
                  have G16 : Grow F1 H1 F6 H6 := G15.trans G6
                  have SS6 := SS5.grow G6
                  dsimp only at hr
                  cases er : lcE t q f (wipeE ρ vs) (ds.drop (i + 1)) with
                  | none => rw [er] at hr; cases hr
                  | some rest' =>
                    rw [er] at hr
                    have e2 : r2 = (match rest' with | .ok ys => .ok (y :: ys) | .error z => .error z) := by
                      cases rest' <;> exact (Option.some.inj hr).symm
                    refine ⟨acc, hl6, ?_, F6, acc ++ [u], accd ++ [y], rest', ⟨G16.f, fun c o hc => ?_, G16.i.mut D6, G16.n⟩, SS6.other D6 DB hn, D6, upd_same, ra6.app (.one ru'), by first | rfl | exact er, ?_, by rw [List.length_append]; simp; omega⟩
                    · rw [ra6.length]
                      omega
                    · rw [upd_ne (ne_of_none hc hD)]
                      exact G16.h c o hc
                    · rw [ey, e2]
                      cases rest' with
                      | ok ys => show Except.ok (accd ++ y :: ys) = Except.ok (accd ++ [y] ++ ys); rw [List.append_assoc]; rfl
                      | error z => rfl
theorem pks_setLcE {i : Nat} {st : Stmt} {fi : Ro → EM (List D)} {q : Ro → EM Bool} {t : Tg} {sl vs : List Nat} (hs : ∀ j ∈ sl, j ∈ vs) (hW : ∀ c d σ σ' H, x.W c d σ H → x.W c d σ' H) (h : PS X st (tAsg (tLc (tI X.K x fi) (tG X.K x.nox sl t) (tT X.K x.nox q) (tK X.K x .fz f) vs) (gName i))) : PS X st (tS X.K x (sSet i (eLcE vs t fi q f))) :=
  ps_wk h fun E σ H q => lcE_rd (k := .fz) rfl (by decide) hs hW (tsAsg (i := i) q)
end
end Tw
/-! TwX: refusals with a field of their own: made and raised; the field read; isinstance. -/
namespace Tw
open PySem PySem.Spec PyProof.Rows L2
open L2H (RoomH Hot1 PinOk cxH inv_startH)
/-- the class's record, asked of the text -/
def oexB (K : PySem.W.Frag) (C : Addr) : Bool := match K.lookup C with
  | some ⟨.type "type", _, .cls kd, zs⟩ => (match kd.mro, zs.toList with
    | .ref C1 :: up, [_, _, _, _, some (.builtin nw), _] => C1 == C && (nw == "ValueError.__new__" && (kd.hasDict && (!kd.hasDel && PySem.HandSPX.refsVE up)))
    | _, _ => false)
  | _ => false
theorem oex_mk {K : PySem.W.Frag} {C : Addr} (b : oexB K C = true) (h1 : PySem.W.findIn K (.ref C) "__setattr__" = some (some (.builtin "object.__setattr__"))) (h2 : PySem.W.subIn K (.ref C) (.type "BaseException") = some true)
    (h3 : PySem.W.typeIn K (.ref C) = some (.type "type")) (h4 : PySem.W.keepIn K (.ref C) = true) : OexC K C := by
  refine ⟨?_, h1, h2, h3, h4⟩
  unfold oexB at b
  split at b
  rotate_left
  · cases b
  rename_i x1 kd zs hl
  split at b
  rotate_left
  · cases b
  rename_i C1 up y0 y1 y2 y3 nw y5 hm hz
  simp only [Bool.and_eq_true, beq_iff_eq, Bool.not_eq_true'] at b
  obtain ⟨e1, e2, e3, e4, e5⟩ := b
  obtain ⟨a1, a2, a3, a4, a5, a6, a7, a8, a9, a10, a11⟩ := kd
  obtain ⟨zl⟩ := zs
  dsimp only at hm e3 e4 hz
  subst hm e3 e4 e1 e2 hz
  exact ⟨_, _, _, _, _, _, _, _, _, _, _, _, _, _, _, hl, e5⟩
/-- what the class's __init__ promises: the base's is called, then the field is set -/
def spX (K : PySem.W.Frag) (C : Addr) (fl : Str) : Sp := fun vs H Q _ => ∃ (a : Addr) (n : Int), vs = [.ref a, .int n] ∧ OexC K C ∧ PySem.W.findIn K (.ref C) fl = some none ∧ H a = some (exo a C none) ∧
  ∀ dx, H dx = none → dx ≠ a → Q .non (upd (upd H dx (exd dx [(fl, .int n)])) a (exo a C (some dx)))
/-- Base.__init__(self, ..) where Base is an own class over ValueError -/
theorem pe_ginit {X : Cx} {n0 : Str} {GE : Addr} {mc : Value} {ta : TA} {e : Expr} {es : List Expr} {p1 p2 pos : Pos} {pl : Sem Bool} (hm : X.mg n0 = some (.ref GE)) (hr : ClX.CRead X.K GE mc) (hv : PySem.W.findCls X.K (.ref GE) mc "__init__" = some (.val (.builtin "ValueError.__init__")))
    (ha : PA X (e :: es) ta) (hg : Gl X n0 := by rfl) (hdb : (n0 == ("__debug__" : Str)) = false := by decide)
    (ht : eval (.Call (.Attribute (.Name n0 p1) "__init__" p2) (e :: es) [] pos) X.env = (do
      let ov ← eval (.Name n0 p1) X.env
      standAt p2.atName
      let (f, first) ← holding [ov] (getMethod ov "__init__" pl)
      callWith pos f first (backTo pos (starEach (e :: es) X.env)) (backToKw pos (keywordEach [] X.env))) := by rfl)
    (hst : starEach (e :: es) X.env = (false, eval e X.env) :: starEach es X.env := by rfl) (hpl : (backTo pos (starEach es X.env)).any (·.1) = false := by rfl) :
    PE X (.Call (.Attribute (.Name n0 p1) "__init__" p2) (e :: es) [] pos) (tVeI X.K ta) := by
  refine ⟨fun pins s σ H Q I q => ?_⟩
  have hC : PE X (.Name n0 p1) (tC (.ref GE)) := pe_glob hg hm rfl hdb
  refine PySem.W.methodCall_KW (pl := pl) (thn (hC.run pins s σ H (fun v H1 => v = .ref GE ∧ H1 = H) I ⟨rfl, rfl⟩) fun u s1 ⟨v, H1, I1, rv, ev, eH⟩ => ?_) ht
  subst ev eH
  obtain rfl : u = Value.ref GE := rv
  refine PySem.W.method_cls I1.kIn hr.ga (PySem.W.cls_value I1.kIn hr.rd hv rfl ?_)
  show wpAny _ _ (callWith pos (Value.builtin "ValueError.__init__") [] (backTo pos (starEach (e :: es) X.env)) []) _ _ _
  refine PyProof.Rows.callWith_method1 (thn (ha.run pos pins _ σ H1 _ (I1.tok _) q) fun us s2 hh => ?_) hst hpl
  obtain ⟨vs, H2, I2, r2, a, C, ws, rfl, hl, T, he, q2⟩ := hh
  cases r2 with
  | cons ra rb =>
    cases (show _ = Value.ref a from ra)
    exact oinit_ok T I2 he (by rw [← Paired.length rb, sizeLine_eq]; omega) fun s' J => ⟨.non, H2, J, rfl, q2⟩
abbrev tInitX (K : PySem.W.Frag) (fl z : Str) : TS := tSeq (tDrop (tVeI K (tCons (tVar 0) (tCons (tC (.str z)) tNil)))) (tSeq (tOst K fl (tVar 0) (tVar 1)) tNext)
section
variable {P : Program} {w : World} {K : PySem.W.Frag} {mg : Str → Option Value} {base : Heap}
theorem fnX {nm qual s0 d0 fl z : Str} {st : Stmt} {f C : Addr} {fd : FuncData} {k : Nat} (F : Fun K nm qual st f fd) (S : FnScope [s0, d0] [s0, d0] (defScope st))
    (hb : ∀ (cdv : Value) (R : Around) (outer : List Env) (s : Shared) (H : Hp) (E : XK), Room k (R.deeper (envOfC qual (defScope st) s.heap.objs.size f cdv)) → PSs (cxOf (L2N.CX P w) P w K mg base [s0, d0] qual (defScope st) f cdv R outer s H E) (defBody st) (tInitX K fl z)) :
    FnOk P w K mg base (L2N.CX P w) (k + 1) f fd [s0, d0] (spX K C fl) :=
  fun_ok F S (fun vs H Q E ⟨a, n, h, _⟩ => by rw [h]; rfl) fun cdv R outer s H vs Q E hr ⟨a, n, ev, T, hno, ha, q⟩ => by
    subst ev
    refine ⟨_, hb cdv R outer s H E hr, ?_⟩
    exact ⟨.ref a, rfl, a, C, [.str z], rfl, (by show (1 : Nat) ≤ 1000; decide), T, ha, .int n, rfl, .ref a, rfl, a, C, rfl, T, hno, .inl ⟨ha, q⟩⟩
end
theorem no_cx' {P : Program} {w : World} {o : List Env} {H : Hp} {s s' : Shared} {u : Value} (h : L2N.CX P w o H s (fun _ _ _ => False) u s') : False := by
  obtain ⟨_, _, _, _, _, _, _, _, _, _, _, _, q⟩ := h
  exact q
/-- C(e, ..), C's own __init__ -/
theorem pmk_oexN {X : Cx} {n0 : Str} {e : Expr} {es : List Expr} {ta : TA} {p pos : Pos} {C fI : Addr} {k : Nat} {fd : FuncData} {ps : List Str} {sp : Sp} (T : OexC X.K C) (h1 : PySem.W.findIn X.K (.ref C) "__init__" = some (some (.ref fI))) (h2 : PySem.W.typeIn X.K (.ref fI) = some (.type "function"))
    (Fn : FnOk X.prog X.w X.K X.mg X.base (L2N.CX X.prog X.w) k fI fd ps sp) (hr : Room (k + 1) X.A) (hb : Binds X.K fd ps []) (hg : Gl X n0) (hm : X.mg n0 = some (.ref C)) (ha : PA X (e :: es) ta)
    (hdb : (n0 == ("__debug__" : Str)) = false := by decide) (hst : starEach (e :: es) X.env = (false, eval e X.env) :: starEach es X.env := by rfl) (hpl : (backTo pos (starEach es X.env)).any (·.1) = false := by rfl) :
    L2N.PMk X (.Call (.Name n0 p) (e :: es) [] pos) (tMkO C sp [] ta) := by
  intro pins sh σ H Q I hh
  obtain ⟨z1, z2, z3, z4, z5, z6, z7, z8, z9, z10, z11, z12, z13, z14, z15, hC, hup⟩ := T.cls
  refine wpAny_Call_Name_kw (ld_glob I hg hm ?_ hdb)
  refine PySem.W.callWith_K (h₀ := X.base) I.ok.mod.kin T.kC (thn (ha.run pos pins sh σ H _ I hh) fun us s1 hq0 => ?_) hst hpl
  obtain ⟨vs, H1, I1, r1, hz, q1⟩ := hq0
  refine ⟨I1.kIn, ?_⟩
  show wpAny _ _ (call (.ref C) us) _ _ _
  obtain ⟨hp, gs, dw, tks, os⟩ := s1
  let a := hp.objs.size + 1
  let hp2 := (hp.push (PySem.W.kdv_tup us)).push (PySem.HandSPX.excO C hp.objs.size)
  have hsz : hp.objs.size ≤ a := Nat.le_succ _
  have hn : H1 a = none := I1.hok.fresh hsz
  have hq := q1 a hn
  rw [List.append_nil] at hq
  have kept : ∀ b o, hp.get? b = some o → hp2.get? b = some o := fun b o he => Heap.get?_push_of_some _ (Heap.get?_push_of_some _ he)
  have new : hp2.get? a = some (PySem.HandSPX.excO C hp.objs.size) := by
    show ((hp.push (PySem.W.kdv_tup us)).push (PySem.HandSPX.excO C hp.objs.size)).get? (hp.objs.size + 1) = _
    heap_get
  have I2 : Inv X pins σ (upd H1 a (exo a C none)) ⟨hp2, gs, dw, tks, os⟩ := I1.laid (t' := tks) (a := a) (o := exo a C none) (h' := hp2) kept hsz (exo_ok new)
  have r2 : Vals (V.ref a :: vs) (Value.ref a :: us) := .cons rfl r1
  have hl : (Value.ref a :: us ++ []).length = ps.length := by
    have e1 := Fn.len _ _ _ _ hq
    have e2 := r2.length
    rw [List.append_nil, ← e1, ← e2]
  have hus : us.length ≤ sizeLine := by rw [← Paired.length r1, sizeLine_eq]; omega
  have b2 := hb _ (Value.ref a :: us) I2.kIn hl
  rw [List.append_nil] at b2
  refine wpAny_call (PySem.HandSPX.call_own F.excBase_ValueError (fun Y => PySem.HandSPX.refsVE_contains Y z5 hup) (I1.kIn _ _ hC) (PySem.W.looks_findIn I1.kIn h1) (fun self => PySem.W.bind_fn I1.kIn self h2) hus
    (codeAny_mono (Fn.run _ X.stack _ _ ⟨Value.ref a :: us, []⟩ (Value.ref a :: us) _ _ (fun _ _ _ => False) (hr.make C us []) (I2.env0.make C us []) b2 r2 hq) fun r s' hq' => ?_))
  cases r with
  | error er => exact (no_cx' hq').elim
  | ok fo =>
    cases fo with
    | next => exact hq'.elim
    | brk => exact hq'.elim
    | cont => exact hq'.elim
    | ret u =>
      obtain ⟨v, H2, os2, bare2, un2, hok2, rv, ev, dx, fs, ea, ed, hd1, q2⟩ := hq'
      subst ev
      obtain ⟨h3, g3, d3, t3, os3⟩ := s'
      obtain ⟨t0, G, J, kG, ge, hoe, na⟩ := mk_end0 (d2 := d3) (t2 := t3) I1 hsz kept un2 hok2 os2 bare2 ea ed hd1
      refine ⟨rv, a, _, _, ⟨G, g3, d3, t3, os3⟩, _, .ref C, some dx, rfl, J, kG, ge, hoe, ⟨rfl, rfl, fun ws hv => ?_⟩, rfl, rfl, na, rfl, bare2, raises_own T.exC T.tyC, q2⟩
      cases hv
      rfl
/-- an own error class with a field, raised with a whole number -/
structure XclF (P : Program) (w : World) (K : PySem.W.Frag) (mg : Str → Option Value) (base : Heap) (A : Ad) (k : Nat) (nm : Str) (c : Xc) (fl : Str) : Prop where
  ex : ∃ f fd ps k', k' + 1 ≤ k ∧ OexC K (A.xc c) ∧ PySem.W.findIn K (.ref (A.xc c)) fl = some none ∧ PySem.W.findIn K (.ref (A.xc c)) "__init__" = some (some (.ref f)) ∧ PySem.W.typeIn K (.ref f) = some (.type "function") ∧
    FnOk P w K mg base (L2N.CX P w) k' f fd ps (spX K (A.xc c) fl) ∧ Binds K fd ps [] ∧ mg nm = some (.ref (A.xc c))
def sRaiseF (mk : Int → Xn) (f : Ro → EM D) : Ro → Option Fl := fun ρ => toS ρ (f ρ) fun d => match d with
  | .int n => some (.ex (mk n) ρ)
  | _ => none
section
variable {X : Cx} {x : Fx} {e : Expr} {n0 : Str} {p p2 p3 : Pos} {kk : Nat} {c : Xc} {fl : Str} {f : Ro → EM D}
theorem pks_raiseF {mk : Int → Xn} (hcl : ∀ n, (mk n).cl = c) (hxr : ∀ n H dd, XR H (mk n) dd ↔ ∃ d, dd = some d ∧ H d = some (.xd [(fl, .int n)])) (hc : X.calm = true) (tk : L2N.Takes X x.W) (C : XclF X.prog X.w X.K X.mg X.base x.A kk n0 c fl) (hr : Room kk X.A) (ha : PE X e (tK X.K x .fz f)) (hg : Gl X n0 := by rfl)
    (hdb : (n0 == ("__debug__" : Str)) = false := by decide) (hst : starEach [e] X.env = (false, eval e X.env) :: starEach [] X.env := by rfl) (hpl : (backTo p2 (starEach [] X.env)).any (·.1) = false := by rfl) :
    PS X (.Raise (some (.Call (.Name n0 p) [e] [] p2)) none p3) (tS X.K x (sRaiseF mk f)) := by
  obtain ⟨fI, fd, ps, k', hk, T, hno, h1, h2, Fn, hb, hm⟩ := C.ex
  refine ps_wk (L2N.ps_raise hc tk (pmk_oexN T h1 h2 Fn (hr.mono hk) hb hg hm (pa_cons ha pa_nil hst) hdb hst hpl)) fun E σ H ⟨F, ρ, fo, S, e0, w⟩ => ?_
  refine ts_step S e0 w fun d F1 H1 v G1 S1 r1 e1 w1 => ?_
  unfold sRaiseF at e1
  split at e1
  rotate_left
  · cases e1
  rename_i n
  cases (Option.some.inj e1)
  have ev : v = .int n := by cases r1; rfl
  subst ev
  refine ⟨by simp, fun a hn => ⟨a, n, rfl, T, hno, upd_same, fun dx hdx hne => ⟨rfl, dx, [(fl, .int n)], upd_same, by rw [upd_ne hne, upd_same], ?_, ?_⟩⟩⟩
  · rw [upd_ne hne] at hdx; exact hdx
  · have hd1 : H1 dx = none := by rw [upd_ne hne] at hdx; exact hdx
    have eH : upd (del (upd (upd (upd H1 a (exo a (x.A.xc c) none)) dx (exd dx [(fl, .int n)])) a (exo a (x.A.xc c) (some dx))) a) dx (.xd [(fl, .int n)]) = upd H1 dx (.xd [(fl, .int n)]) := by
      funext b
      by_cases q1 : b = dx
      · rw [q1, upd_same, upd_same]
      · rw [upd_ne q1, upd_ne q1]
        by_cases q2 : b = a
        · rw [q2, del_same, hn]
        · rw [del_ne q2, upd_ne q2, upd_ne q1, upd_ne q2]
    rw [eH]
    have G2 : Grow F1 H1 F1 (upd H1 dx (.xd [(fl, .int n)])) := ⟨.refl _, fun b o hb => by rw [upd_ne (ne_of_none hb hd1)]; exact hb, fun b o hb => by rw [upd_ne (ne_of_none (S1.fh b o hb) hd1)]; exact S1.fh b o hb, fun _ _ _ => rfl⟩
    have := w1 F1 (upd H1 dx (.xd [(fl, .int n)])) σ (.refl _) (S1.grow G2) (some dx) ((hxr n _ _).mpr ⟨dx, rfl, upd_same⟩)
    rw [hcl n] at this
    exact this
end
end Tw
/-! TwY: a caught refusal's field; isinstance of any refusal. -/
namespace Tw
open PySem PySem.Spec PyProof.Rows L2
open L2H (RoomH Hot1 PinOk cxH inv_startH)
theorem xr_dict {H : Hp} {y : Xn} {d : Option Addr} (h : XR H y d) : d = none ∨ ∃ dd fs, d = some dd ∧ H dd = some (.xd fs) := by
  cases y <;> first | exact .inl h | exact .inr (let ⟨dd, e1, e2⟩ := h; ⟨dd, _, e1, e2⟩)
theorem xr_mono {H H' : Hp} {y : Xn} {d : Option Addr} (e : Ex H H') (h : XR H y d) : XR H' y d := by
  revert h
  unfold XR
  cases y <;> first | exact fun q => q | exact fun ⟨dd, q1, q2⟩ => ⟨dd, q1, e _ _ q2⟩
def IsTabX (K : PySem.W.Frag) (A : Ad) (u : Value) (tab : Xc → Option Bool) : Prop := ∀ c b, tab c = some b → ExcC K (A.xc c) ∧ PySem.W.kitOne K (.ref (A.xc c)) u = some b
def dDay : Xn → EM D
  | .badDay n => ok (.int n)
  | _ => none
def dRow : Xn → EM D
  | .badRow n => ok (.int n)
  | _ => none
/-- what the class of a refusal with a field must say -/
structure XfD (K : PySem.W.Frag) (A : Ad) (c : Xc) (fl : Str) : Prop where
  xf : XfC K (A.xc c)
  no : PySem.W.findIn K (.ref (A.xc c)) fl = some none
section
variable {X : Cx} {x : Fx} {a : Addr} {y : Xn} {d : Option Addr} {e c : Expr} {p pos : Pos} {i : Nat} {cv : V} {u : Value} {tab : Xc → Option Bool}
theorem xr_inst {pins : List (Addr × Obj)} {s : Shared} {σ : L2.St} {H : Hp} {oe : Obj} (I : Inv X pins σ H s) (h2 : (a, oe) ∈ X.pn) (h3 : L2N.Zn (.ref (x.A.xc y.cl)) d oe) (h4 : ∃ vs, oe.data = .fields vs) (xr : XR H y d) : ∃ od, PySem.W.InstAt s.heap a oe (x.A.xc y.cl) od := by
  have hget := (I.pin (a, oe) (List.mem_append_left _ h2)).1
  obtain ⟨vs, hv⟩ := h4
  obtain ⟨oc, od, oda, osl⟩ := oe
  obtain ⟨e1, e2, _⟩ := h3
  dsimp only at e1 e2 hv
  subst e1 e2 hv
  rcases xr_dict xr with q | ⟨dd, fs, q, hd⟩
  · subst q
    exact ⟨none, hget, rfl, rfl, trivial⟩
  · subst q
    have hx : ObjOk X.prog X.w H s.heap dd (.xd fs) := I.hok dd _ hd
    obtain ⟨mA, hns, _⟩ := hx
    obtain ⟨o1, ho, _⟩ := lookIn_ns hns
    exact ⟨some o1, hget, rfl, rfl, ho⟩
theorem pk_isX (T : IsTabX X.K x.A u tab) (hot : HotE x.A X a y d) (hB : XR x.B y d) (hT : ∀ j, x.T j = .ref a) (cu : ClsV cv u) (hm : X.mg "isinstance" = none) (hg : Gl X "isinstance") (hc : PE X c (tC cv)) (he : PE X e (tVar i))
    (hs : starEach [e, c] X.env = (false, eval e X.env) :: starEach [c] X.env := by rfl) (hs2 : starEach [c] X.env = (false, eval c X.env) :: starEach [] X.env := by rfl) (hpl : (backTo pos (starEach [c] X.env)).any (·.1) = false := by rfl) :
    PE X (.Call (.Name "isinstance" p) [e, c] [] pos) (tK X.K x .fz (eTk i (dIsE tab y))) := by
  cases et : tab y.cl with
  | none =>
    refine ⟨fun pins s σ H Q I ⟨F, ρ, r, S, ee, w⟩ => ?_⟩
    unfold eTk dIsE at ee
    rw [et] at ee
    split at ee <;> cases ee
  | some b =>
    obtain ⟨C, kb⟩ := T _ _ et
    have call : CallR X (.builtin "isinstance") (fun xs H Q => xs = [.ref a, cv] ∧ XR H y d ∧ Q (.bl b) H) := by
      rintro pins s σ H xs us Q I r ⟨rfl, xr, q⟩
      obtain ⟨u1, u2, rfl, r1, r2⟩ := vals2 r
      cases r1
      cases (cu.eq r2)
      obtain ⟨oe, h1, h2, h3, h4⟩ := hot.ex
      obtain ⟨od, J⟩ := xr_inst (x := x) I h2 h3 h4 xr
      obtain ⟨cd, hcd, _⟩ := PySem.W.any_some C.hd
      exact PySem.W.kia_one (PySem.W.kitx_exc (by rw [hcd]; rfl) C.hg C.hk C.hs C.ha C.hn C.ht C.hm) I.kIn J kb (fun z => nomatch z) fun t1 => ⟨.bl b, H, I.kept (t' := t1) fun _ _ z => z, rfl, q⟩
    refine pe_wk (pe_callB call hg hm (by decide +kernel) (pa_cons he (pa_cons hc pa_nil hs2) hs) (he := hs) (hpl := hpl)) fun σ H Q ⟨F, ρ, r, S, ee, w⟩ => ?_
    unfold eTk dIsE at ee
    rw [et] at ee
    by_cases hi : isTk ρ[i]? = true
    rotate_left
    · rw [if_neg hi] at ee; cases ee
    rw [if_pos hi] at ee
    cases (Option.some.inj ee)
    obtain ⟨j, hj⟩ := isTk_ex hi
    exact ⟨.ref a, by rw [S.tk i j hj, hT j], rfl, xr_mono S.bh hB, w F H _ (.refl S.fh) (.bl b)⟩
theorem pe_xfA {fl : Str} {n : Int} {dd : Addr} (T : XfD X.K x.A y.cl fl) (hot : HotE x.A X a y d) (ed : d = some dd) (he : PE X e (tVar i)) (hb : attributeBase e fl X.env (eval e X.env) = eval e X.env := by rfl) :
    PE X (.Attribute e fl pos) (fun σ H Q => σ[i]? = some (some (.ref a)) ∧ H dd = some (.xd [(fl, .int n)]) ∧ Q (.int n) H) := by
  refine ⟨fun pins s σ H Q I ⟨hv, hd, q⟩ => ?_⟩
  refine attr_of hb (thn (he.run pins s σ H (fun v H1 => v = .ref a ∧ H1 = H) I ⟨.ref a, hv, rfl, rfl⟩) fun u1 s1 hh => ?_)
  obtain ⟨v, H1, I1, rv, ev, eH⟩ := hh
  subst ev eH
  obtain rfl : u1 = Value.ref a := rv
  obtain ⟨oe, h1, h2, h3, vs, hvs⟩ := hot.ex
  have hget := (I1.pin (a, oe) (List.mem_append_left _ h2)).1
  have hx : ObjOk X.prog X.w H1 s1.heap dd (.xd [(fl, .int n)]) := I1.hok dd _ hd
  obtain ⟨mA, hns, rel⟩ := hx
  obtain ⟨o1, ho, hl⟩ := lookIn_ns hns
  have hlk : ([(fl, V.int n)] : List (Str × V)).lookup fl = some (.int n) := by simp [List.lookup]
  obtain ⟨u2, hu, ru⟩ := RelO.some_of (v := .int n) (o := mA fl) (by rw [← hlk]; exact rel fl)
  have J : PySem.W.InstAt s1.heap a oe (x.A.xc y.cl) (some o1) := ⟨hget, h3.1, by unfold PySem.W.notCls; rw [hvs] <;> rfl, by rw [h3.2.1, ed]; exact ho⟩
  exact HandSPX.exc_get I1.kIn J T.xf.ga T.xf.gg T.xf.exC (PySem.W.findObj_own T.xf.hdC T.no rfl (by rw [hl, hu])) (handed_of ru) ⟨.int n, H1, I1.tok _, ru, q⟩
theorem pk_day (T : XfD X.K x.A .badDay "day") (hot : HotE x.A X a y d) (hB : XR x.B y d) (hT : ∀ j, x.T j = .ref a) (he : PE X e (tVar i)) (hb : attributeBase e "day" X.env (eval e X.env) = eval e X.env := by rfl) : PE X (.Attribute e "day" pos) (tK X.K x .fz (eTk i (dDay y))) := by
  cases y with
  | badDay n =>
    obtain ⟨dd, ed, hd⟩ := hB
    refine pe_wk (pe_xfA (n := n) T hot ed he hb) fun σ H Q ⟨F, ρ, r, S, ee, w⟩ => ?_
    unfold eTk at ee
    by_cases hi : isTk ρ[i]? = true
    rotate_left
    · rw [if_neg hi] at ee; cases ee
    rw [if_pos hi] at ee
    cases (Option.some.inj ee)
    obtain ⟨j, hj⟩ := isTk_ex hi
    exact ⟨by rw [S.tk i j hj, hT j], S.bh _ _ hd, w F H _ (.refl S.fh) (.int n)⟩
  | _ =>
    refine ⟨fun pins s σ H Q I ⟨F, ρ, r, S, ee, w⟩ => ?_⟩
    unfold eTk dDay at ee
    split at ee <;> cases ee
theorem pk_row (T : XfD X.K x.A .badRow "row") (hot : HotE x.A X a y d) (hB : XR x.B y d) (hT : ∀ j, x.T j = .ref a) (he : PE X e (tVar i)) (hb : attributeBase e "row" X.env (eval e X.env) = eval e X.env := by rfl) : PE X (.Attribute e "row" pos) (tK X.K x .fz (eTk i (dRow y))) := by
  cases y with
  | badRow n =>
    obtain ⟨dd, ed, hd⟩ := hB
    refine pe_wk (pe_xfA (n := n) T hot ed he hb) fun σ H Q ⟨F, ρ, r, S, ee, w⟩ => ?_
    unfold eTk at ee
    by_cases hi : isTk ρ[i]? = true
    rotate_left
    · rw [if_neg hi] at ee; cases ee
    rw [if_pos hi] at ee
    cases (Option.some.inj ee)
    obtain ⟨j, hj⟩ := isTk_ex hi
    exact ⟨by rw [S.tk i j hj, hT j], S.bh _ _ hd, w F H _ (.refl S.fh) (.int n)⟩
  | _ =>
    refine ⟨fun pins s σ H Q I ⟨F, ρ, r, S, ee, w⟩ => ?_⟩
    unfold eTk dRow at ee
    split at ee <;> cases ee
end
end Tw
/-! TwZ: a list comprehension out of whose element a refusal comes. -/
namespace Tw
open PySem PySem.Spec PyProof.Rows L2
theorem noteFrame_eq {e : Value} {c1 c2 : Env} (h : c1.frame = c2.frame) : noteFrame e c1 = noteFrame e c2 := by
  unfold noteFrame PySem.frameOf
  rw [h]
theorem frames_in {h h2 B B2 : Heap} (k : ∀ b, B.get? b = none → B2.get? b = none ∧ h2.get? b = h.get? b) : ∀ {l : List Env}, h.FunFrames B l → h2.FunFrames B2 l
  | [], _ => trivial
  | c :: l, ⟨h1, ⟨L, o, e1, e2, e3, e4⟩, r⟩ => ⟨h1, ⟨L, o, e1, (k L e2).1, by rw [(k L e2).2]; exact e3, e4⟩, frames_in k r⟩
section
variable {M : Model} {A : Around} {E : Value → Shared → Prop} {s : Shared} {Z : Obj → Prop} {B : Heap} {env : Env} {outer : List Env} {L C a : Addr} {Q : Unit → Shared → Prop}
/-- held at another place, now noted here -/
theorem elseZ (hZ : PXN.Steady1 Z) (hfr : A.frames = some (env :: outer)) (hf : env.frame = some L) (hne : C ≠ L) (hh : HandSPX.HeldZ B (env :: outer) a Z C s.heap)
    (hQ : ∀ h', HandSPX.HeldZ B (env :: outer) a Z L h' → s.heap.UpToSlots h' → Q () { s with heap := h' }) : wpAny M A (noteFrame (.ref a) env) Q E s := by
  obtain ⟨g1, g2, g3, ox, xs, T, oT, ts, ha, hz, hx, x1, tB, tne, ht, htd, t3⟩ := hh
  have hT : ∀ b, b ≠ T → (s.heap.update T (Obj.mapFields (·.setIfInBounds 3 Value.none))).get? b = s.heap.get? b := fun b q => Heap.get?_update_other _ _ (Ne.symm q)
  have notT : ∀ b o, s.heap.get? b = some o → (∀ zs, o.data ≠ .fields zs) → b ≠ T := fun b o hb hn q => by
    subst q
    rw [ht] at hb
    cases hb
    exact hn ts htd
  have nt : (rawInt C == rawInt L) = false := by
    have : (C : Int) ≠ (L : Int) := fun z => hne (Int.ofNat.inj z)
    simp [rawInt, this]
  unfold noteFrame
  simp only [hf]
  refine wpAny_bind (wpAny_field ha hx x1 ?_)
  rw [if_pos (by simp : (Value.ref T != Value.none) = true)]
  refine wpAny_bind (wpAny_field ht htd t3 ?_)
  rw [if_neg (by rw [nt]; decide)]
  refine wpAny_bind (wpAny_setField ht htd (Array.getElem?_eq_some_iff.mp t3).1 ?_)
  refine PXN.wpAny_entryZ hZ hfr (g3.of_keeps fun b o hb hn => ⟨o, (hT b (notT b o hb hn)).trans hb, rfl⟩) hf ((hT a (Ne.symm tne)).trans ha) (fun b o hb => ?_) g2 hx (Array.getElem?_eq_some_iff.mp x1).1 hz fun h' hN => ?_
  · have : b ≠ T := fun q => by rw [q, tB] at hb; cases hb
    rw [hT b this]
    exact g1 b o hb
  · obtain ⟨n1, n2, n3, n4⟩ := hN
    exact hQ h' ⟨n1, g2, n2, n3⟩ fun b o hb hn => n4 b o ((hT b (notT b o hb hn)).trans hb) hn
theorem sky_note (hZ : PXN.Steady1 Z) (hfr : A.frames = some (env :: outer)) (hf : env.frame = some L) (hne : C ≠ L) (x : Sky B (env :: outer) a Z C s.heap)
    (hQ : ∀ h', HandSPX.HeldZ B (env :: outer) a Z L h' → s.heap.UpToSlots h' → Q () { s with heap := h' }) : wpAny M A (noteFrame (.ref a) env) Q E s := by
  rcases x with ⟨q1, q2, q3, oe, vs, q4, q5, q6, q7⟩ | q | q
  · exact PXN.look_newZ hZ hfr q3 hf q4 q1 q2 q6 q7 q5 hQ
  · exact PXN.looks_onZ hZ hfr hf q hQ
  · exact elseZ hZ hfr hf hne q hQ
theorem pass_on {α : Type} {what : String} {l : List Env} {Qa : α → Shared → Prop} (hf : env.frame = some L) (hh : HandSPX.HeldZ B l a Z L s.heap) (hE : ∀ h', HandSPX.HeldZ B l a Z L h' → s.heap.UpToSlots h' → E (.ref a) { s with heap := h' }) :
    wpAny M A (PySem.passOn what (.ref a) env : Sem α) Qa E s := by
  obtain ⟨ox, xs, T, oT, ts, ha, hz, hx, x1, r⟩ := hh.2.2.2
  unfold PySem.passOn
  refine wpAny_bind (wpAny_field ha hx x1 ?_)
  rw [if_neg (by simp : ¬ (Value.ref T == Value.none) = true)]
  rw [hf]
  exact wpAny_bind (HandSPX.setFlight_onZ hh fun h' k1 k2 => wpAny_throw (hE h' k1 k2))
/-- the ground without one object that nobody holds -/
theorem held_cut {l : List Env} {h h2 G : Heap} (hh : HandSPX.HeldZ B l a Z L h) (hC : ∃ o, B.get? C = some o) (k : ∀ b, b ≠ C → h2.get? b = h.get? b) (g1 : ∀ b, b ≠ C → G.get? b = B.get? b) (g2 : G.get? C = none) : HandSPX.HeldZ G l a Z L h2 := by
  obtain ⟨f1, f2, f3, ox, xs, T, oT, ts, ha, hz, hx, x1, tB, tne, ht, r⟩ := hh
  obtain ⟨oC, hC⟩ := hC
  have ne : ∀ b, B.get? b = none → b ≠ C := fun b q z => by rw [z, hC] at q; cases q
  have na := ne a f2
  have nT := ne T tB
  refine ⟨fun b o hb => ?_, by rw [g1 a na]; exact f2, frames_in (fun b q => ⟨by rw [g1 b (ne b q)]; exact q, k b (ne b q)⟩) f3, ox, xs, T, oT, ts, by rw [k a na]; exact ha, hz, hx, x1, by rw [g1 T nT]; exact tB, tne, by rw [k T nT]; exact ht, r⟩
  by_cases q : b = C
  · rw [q, g2] at hb; cases hb
  · rw [g1 b q] at hb
    rw [k b q]
    exact f1 b o hb
end
/-! ### the comprehension, its block's end told for both ways -/
def blkEnd (M : Model) (A : Around) (E : Value → Shared → Prop) (use : Option (Value → Sem Unit)) (Q : Value → Shared → Prop) (acc : Value) (ce : Env) (r : Result) (s' : Shared) : Prop := match r, use with
  | .ok _, none => ∃ m, s'.heap.Ns ce.locals m ∧ ∀ h', Heap.SameBut ce.locals s'.heap h' → Q acc { s' with heap := h' }
  | .ok _, some u => wpAny M A (u acc) (fun _ s2 => ∃ m, s2.heap.Ns ce.locals m ∧ ∀ h', Heap.SameBut ce.locals s2.heap h' → Q .none { s2 with heap := h' }) E s'
  | .error x, _ => ∃ m, s'.heap.Ns ce.locals m ∧ ∀ h', Heap.SameBut ce.locals s'.heap h' → wpAny M A (PySem.passOn "comprehension.variables-let-go" x ce : Sem Value) (fun _ _ => False) E { s' with heap := h' }
section
variable {M : Model} {A : Around} {E : Value → Shared → Prop} {s : Shared} {env : Env}
theorem comp_run {e : Expr} {scope : Scope} {pos : Pos} {mkA first : Sem Value} {g : Comprehension} {gs : List Comprehension} {cl : List (Str × Addr)} {use : Option (Value → Sem Unit)} {Q : Value → Shared → Prop}
    (h1 : clausesOf e = g :: gs) (h2 : ∀ x, foldedSetIterable g.iter env x = pure x) (h3 : closureFor scope env = pure cl) (h4 : scope.kind = .function) (h5 : ∀ x ∈ scope.names, x.2 = .local → scope.names.lookup x.1 = some .local)
    (h : wpAny M A first (fun x s1 => wpAny M A (pyIter x) (fun it s2 => wpAny M A mkA (fun acc s3 => wpAny M A (newFunctionEnv scope env.globals cl [] env.qual none .none (some env))
      (fun ce s4 => codeAny M A (.compStart e 0 it acc { ce with scope := relabel scope env }) (blkEnd M A E use Q acc { ce with scope := relabel scope env }) s4) E s3) E s2) E s1) E s) :
    wpAny M A (comprehension e scope env pos mkA false first use) Q E s := by
  unfold comprehension
  rw [h3, h1]
  refine wpAny_bind (wpAny_mono h (fun x s1 q1 => ?_) fun _ _ z => z)
  refine wpAny_bind (wpAny_standAt (wpAny_bind (wpAny_of_eq (h2 x) (wpAny_bind (wpAny_holding (wpAny_mono q1 (fun it s2 q2 => ?_) fun _ _ z => z))))))
  refine wpAny_standIf (wpAny_bind (wpAny_mono q2 (fun acc s3 q3 => ?_) fun _ _ z => z))
  refine wpAny_bind (wpAny_pure (wpAny_bind (wpAny_mono q3 (fun ce s4 q4 => ?_) fun _ _ z => z)))
  dsimp only
  have own : ∀ y ∈ (scope.names.filter fun y => (y.2 == .local || y.2 == .cell) && y.1 != (".0" : Str)), y.2 = .local → Env.kindOf { ce with scope := relabel scope env } y.1 = some .local := fun y hy hl =>
    lookup_relabel_local (h5 y (List.mem_filter.mp hy).1 hl)
  have own1 : ∀ y ∈ (scope.names.filter fun y => (y.2 == .local || y.2 == .cell) && y.1 != (".0" : Str)).reverse, y.2 = .local → Env.kindOf { ce with scope := relabel scope env } y.1 = some .local := fun y hy => own y (List.mem_reverse.mp hy)
  have own2 : ∀ y ∈ (scope.names.filter fun y => (y.2 == .local || y.2 == .cell) && y.1 != (".0" : Str)).reverse.drop 1 ++ (scope.names.filter fun y => (y.2 == .local || y.2 == .cell) && y.1 != (".0" : Str)).reverse.take 1,
      y.2 = .local → Env.kindOf { ce with scope := relabel scope env } y.1 = some .local := fun y hy => (List.mem_append.mp hy).elim (fun q => own1 y (List.mem_of_mem_drop q)) fun q => own1 y (List.mem_of_mem_take q)
  refine wpAny_holding (wpAny_bind (wpAny_attempt (wpAny_holding (wpAny_run (codeAny_mono q4 fun r s5 hr => ?_)))))
  cases r with
  | error x =>
    have hr' : ∃ m, s5.heap.Ns ce.locals m ∧ ∀ h', Heap.SameBut ce.locals s5.heap h' → wpAny M A (PySem.passOn "comprehension.variables-let-go" x { ce with scope := relabel scope env } : Sem Value) (fun _ _ => False) E { s5 with heap := h' } := by cases use <;> exact hr
    obtain ⟨m, hn, hx⟩ := hr'
    exact wpAny_bind (wpAny_holding (wpAny_comp_letGo (cenv := { ce with scope := relabel scope env }) h4 _ s5 m own1 hn fun h' _ _ sb => wpAny_mono (hx h' sb) (fun _ _ f => f.elim) fun _ _ z => z))
  | ok fo =>
    cases use with
    | none =>
      obtain ⟨m, hn, hq⟩ := hr
      exact wpAny_bind (wpAny_holding (wpAny_comp_letGo (cenv := { ce with scope := relabel scope env }) h4 _ s5 m own1 hn fun h' _ _ sb => wpAny_pure (hq h' sb)))
    | some u =>
      refine wpAny_bind (wpAny_rule (wpAny_bind (wpAny_holding (wpAny_mono hr (fun _ s6 hq => ?_) fun _ _ z => z))))
      obtain ⟨m, hn, hq⟩ := hq
      exact wpAny_bind (wpAny_comp_letGo (cenv := { ce with scope := relabel scope env }) h4 _ s6 m own2 hn fun h' _ _ sb => wpAny_pure (hq h' sb))
end
/-! ### the core -/
abbrev blkX (X : Cx) (s : Shared) (H : Hp) (scope : Scope) (ce : Env) (wr : List Addr) (xe : Value → Shared → Prop) : Cx := { X.blk s H scope ce wr with xe := xe }
theorem inv_xe {X : Cx} {pins : List (Addr × Obj)} {σ : L2.St} {H : Hp} {s : Shared} (xe : Value → Shared → Prop) (I : Inv X pins σ H s) : Inv { X with xe := xe } pins σ H s :=
  ⟨⟨I.ok.mod, I.ok.kind, I.ok.glob, I.ok.blt, I.ok.above, I.ok.inj, I.ok.has, I.ok.cab, I.ok.hd, I.ok.frames, I.ok.stk, I.ok.exf, I.ok.bs, I.ok.bsz, I.ok.noex, I.ok.exfs, I.ok.funs, I.ok.frf⟩, I.os, I.bare, I.base, I.loc, I.cell, I.free, I.freeC, I.pin, I.hok, I.len⟩
section
variable {X : Cx} {W : WX}
theorem lc_coreE {pins : List (Addr × Obj)} {s : Shared} {σ : L2.St} {H : Hp} {Q : VK} {elt tg iter : Expr} {ifs : List Expr} {scope : Scope} {own : List (Str × Nat)} {pos pos' : Pos} {wi : TI} {g : TG} {tt : TT} {te : TE} {use : Option (Value → Sem Unit)} {Qf : Value → Shared → Prop}
    (hc : X.calm = true) (hN : X.N.Nodup) (hs : X.stack = X.env :: X.outer) (hf : X.env.frame = some X.env.locals) (tk : L2N.Takes X W) (hW : ∀ c d σ σ' H, W c d σ H → W c d σ' H) (I : Inv X pins σ H s) (hi : PI X tg iter wi) (ok : BlkOk X.N X.env.scope scope own)
    (hg : ∀ s H C cl wr xe, L2N.Takes (blkX X s H scope (compEnvC scope cl C X.env) wr xe) W → PG (blkX X s H scope (compEnvC scope cl C X.env) wr xe) tg g)
    (ht : ∀ s H C cl wr xe, L2N.Takes (blkX X s H scope (compEnvC scope cl C X.env) wr xe) W → PTs (blkX X s H scope (compEnvC scope cl C X.env) wr xe) ifs tt)
    (he : ∀ s H C cl wr xe, L2N.Takes (blkX X s H scope (compEnvC scope cl C X.env) wr xe) W → PE (blkX X s H scope (compEnvC scope cl C X.env) wr xe) elt te)
    (hfs : ∀ x, foldedSetIterable iter X.env x = pure x) (h : tLc wi g tt te (own.map (·.2)) σ H Q)
    (hend : ∀ D C s' m H', Inv X pins σ H' s' → Q (.ref D) H' → s'.heap.Ns C m → FpOk X pins H' C → ∀ ce : Env, ce.locals = C → blkEnd (model X.prog X.w) X.A X.xe use Qf (.ref D) ce (.ok .next) s') :
    wpAny (model X.prog X.w) X.A (comprehension (.ListComp elt [⟨tg, iter, ifs, 0⟩] scope pos) scope X.env pos' (newList []) false (eval iter X.env) use) Qf X.xe s := by
  have outer : ∀ y ∈ scope.names, y.2 = .free → ∃ c, X.env.cells.lookup y.1 = some c := fun y hy e => (ok.free y hy e).elim (fun q => I.ok.has _ (.inl q)) fun q => I.ok.has _ (.inr q)
  refine comp_run (use := use) rfl hfs (closure_ok outer) ok.kind (fun y hy e => (ok.uniq y hy).trans (by rw [e])) (thn (hi.run pins s σ H _ I h) fun xv sa hx => thn hx fun itv sb hb => ?_)
  obtain ⟨it, wr, tn, J, Hb, rfl, Ib, T, stb, fb, q⟩ := hb
  refine wpAny_newObj_type (newEnv_comp ?_) (by show 0 ≤ sizeLine; decide)
  generalize eD : sb.heap.objs.size = D
  have nD : Hb D = none := Ib.hok.fresh (Nat.le_of_eq eD)
  obtain ⟨Wt, ⟨m0, w0⟩, turn⟩ := q D nD
  generalize esc : ({ sb with heap := sb.heap.push { cls := .type "list", data := .seq ([] : List Value).toArray } } : Shared) = sc
  have hsc : sc.heap = sb.heap.push { cls := .type "list", data := .seq ([] : List Value).toArray } := by rw [← esc]
  have Ic : Inv X pins σ (upd Hb D (.lst [])) sc := by
    rw [← esc]
    refine Ib.laid (t' := sb.toks) (fun b o z => Heap.get?_push_of_some _ z) (Nat.le_of_eq eD) ⟨Nat.zero_le _, [], 0, .nil, ?_⟩
    rw [← eD]
    exact Heap.get?_push_size _ rfl
  have fc : ∀ b ∈ wr, FpOk X pins (upd Hb D (.lst [])) b ∧ b < sc.heap.objs.size := fun b hb => by
    obtain ⟨o, z, _⟩ := T.obj _ _ stb b hb
    have lt := Heap.lt_size z
    refine ⟨⟨by rw [upd_ne (by rw [← eD]; exact Nat.ne_of_lt lt)]; exact (fb b hb).1, (fb b hb).2⟩, ?_⟩
    rw [hsc, Heap.size_push]
    exact Nat.lt_succ_of_lt lt
  have stc : tn 0 sc.heap := T.keep _ _ _ stb fun b _ o z => by rw [hsc]; exact Heap.get?_push_of_some _ z
  have Id0 := block_start Ic ok hN fc
  -- the refusal's way out
  let xb : Cx → Value → Shared → Prop := fun Y u s' => L2N.XE Y W u s'
  generalize eC : sc.heap.objs.size = C at Id0 ⊢
  generalize eH : upd Hb D (.lst []) = Hc at Ic Id0 w0 fc ⊢
  let ce := compEnvC scope (cellsFrom (C + 1) scope.names (cloFrom X.env.cells scope.names [])) C X.env
  let Y0 := X.blk sc Hc scope ce wr
  let xe : Value → Shared → Prop := fun u s' => L2N.XE Y0 W u s'
  let Y := blkX X sc Hc scope ce wr xe
  have tkY : L2N.Takes Y W := fun u s' hx => by
    obtain ⟨a, B, sI, ps, σ1, H1, cls, d, e1, I1, r⟩ := hx
    exact ⟨a, B, sI, ps, σ1, H1, cls, d, e1, inv_xe (X := Y) (fun _ _ => False) I1, r⟩
  have pg : PG Y tg g := hg sc Hc C _ wr xe tkY
  have pt : PTs Y ifs tt := ht sc Hc C _ wr xe tkY
  have pe : PE Y elt te := he sc Hc C _ wr xe tkY
  have Id := inv_xe (X := Y0) xe Id0
  have nw : ∀ b ∈ wr, Hc b = none := fun b hb => (fc b hb).1.1
  generalize esd : ({ sc with heap := pushCells (sc.heap.push { cls := .type "dict", data := .dict #[] }) scope.names } : Shared) = sd at Id ⊢
  have std : tn 0 sd.heap := T.keep _ _ _ stc fun b _ o z => by rw [← esd]; exact pushCells_keeps _ _ _ _ (Heap.get?_push_of_some _ z)
  have still : ∀ {σ' : L2.St} {H' : Hp} {s' : Shared}, Inv Y [] σ' H' s' → (∀ b ∈ wr, H' b = none) → ∀ b ∈ wr, FpOk Y [] H' b := fun I' hn b hb =>
    ⟨hn b hb, (I'.ok.exf b hb).1, I'.ok.exfs b hb, .inl hb, fun x c e => (I'.ok.exf b hb).2 x c e, fun p hp => absurd (show p ∈ ([] : List (Addr × Obj)) ++ [] from hp) (by simp)⟩
  -- back in the def's context
  have back : ∀ {ps : List (Addr × Obj)} {σ' : L2.St} {H' : Hp} {s' : Shared}, Inv Y ps σ' H' s' → Inv X pins σ H' s' ∧ (∃ m, s'.heap.Ns C m) ∧ FpOk X pins H' C := fun {ps σ' H' s'} I' => by
    have I2 : Inv X pins σ H' s' := Ic.call' (ch := wr) I'.os I'.base I'.hok I'.bare fun b hb => ⟨(fc b hb).1.2.2.2.1, (fc b hb).1.2.1, (fc b hb).1.2.2.2.2.1, (fc b hb).1.2.2.2.2.2⟩
    have nC : H' C = none := I'.free
    obtain ⟨m, hn, _⟩ := I'.loc
    exact ⟨I2, ⟨m, hn⟩, Ic.fpOk (Nat.le_of_eq eC) nC⟩
  have out : ∀ u s', xe u s' → notedBy (model X.prog X.w) X.A ce (fun e s2 => blkEnd (model X.prog X.w) X.A X.xe use Qf (.ref D) ce (.error e) s2) u s' := fun u s' hx => by
    obtain ⟨a, B, sI, ps, σ1, H1, cls, d, rfl, I1, nb, up, sky, na, os, ag, w⟩ := hx
    obtain ⟨Ix, ⟨m, hn⟩, fC⟩ := back (inv_xe (X := Y0) xe I1)
    obtain ⟨f0, f1, f2, f3, f4, f5⟩ := fC
    have nfr : C ∉ frs X.stack := by
      rw [hs]
      show C ∉ List.filterMap _ (X.env :: X.outer)
      rw [List.filterMap_cons, hf]
      exact fun z => (List.mem_cons.mp z).elim f1 f2
    obtain ⟨oC, es, ep, hC, hd, hk, hl⟩ := hn
    have hB := nb C oC hC nfr
    have sky' : Sky B (X.env :: X.outer) a (L2N.Zn cls d) C s'.heap := by rw [← hs]; exact sky
    unfold notedBy
    rw [noteFrame_eq (c1 := ce) (c2 := X.env) rfl]
    refine sky_note L2N.Zn.steady (by rw [← hs]; exact I.ok.frames) hf f1 sky' fun h1 hh up1 => ?_
    have hC1 : h1.get? C = some oC := hh.1 C oC hB
    refine ⟨m, ⟨oC, es, ep, hC1, hd, hk, hl⟩, fun h2 sb2 => ?_⟩
    obtain ⟨B2, b1, b2⟩ := restrict B fun b => decide (b ≠ C)
    obtain ⟨G, g1, g2⟩ := restrict sI.heap fun b => decide (b ≠ C)
    have b1' : ∀ b, b ≠ C → B2.get? b = B.get? b := fun b hb => b1 b (decide_eq_true hb)
    have g1' : ∀ b, b ≠ C → G.get? b = sI.heap.get? b := fun b hb => g1 b (decide_eq_true hb)
    have hh2 : HandSPX.HeldZ B2 (X.env :: X.outer) a (L2N.Zn cls d) X.env.locals h2 := held_cut hh ⟨oC, hB⟩ sb2.2 b1' (b2 C (by simp))
    refine pass_on (env := ce) (L := X.env.locals) hf hh2 fun h3 hh3 up3 => tk _ _ ⟨a, B2, { sI with heap := G }, pins, σ, H1, cls, d, rfl, ?_, fun b o hb hnf => ?_, fun b o hb hnf => ?_, ?_, na, os, ag, hW _ _ _ _ _ w⟩
    · exact Ix.turned (t' := sI.toks) (fun b o hb z => (g1' b hb).trans z) f0 f1 f3 f4 f5
    · by_cases z : b = C
      · rw [z] at hb
        rw [g2 C (by simp)] at hb
        cases hb
      · rw [b1' b z]
        exact nb b o ((g1' b z).symm.trans hb) hnf
    · by_cases z : b = C
      · rw [z] at hb
        rw [g2 C (by simp)] at hb
        cases hb
      · obtain ⟨y1, e1⟩ := up b o ((g1' b z).symm.trans hb) hnf
        obtain ⟨y2, e2⟩ := up1 b _ e1 hnf
        obtain ⟨y3, e3⟩ := up3 b _ ((sb2.2 b z).trans e2) hnf
        exact ⟨y3, e3⟩
    · rw [hs]
      exact .inr (.inr hh3)
  have loop : codeAny (model X.prog X.w) X.A (.compLoop (.ListComp elt [⟨tg, iter, ifs, 0⟩] scope pos) 0 (.ref it) (.ref D) ce) (blkEnd (model X.prog X.w) X.A X.xe use Qf (.ref D) ce) sd := by
    refine compLoop_any (fun n s' => ∃ i H', Inv Y [] (wipe σ (own.map (·.2))) H' s' ∧ tn i s'.heap ∧ (∀ b ∈ wr, H' b = none) ∧ Wt i n H') ?_ m0 ⟨0, Hc, Id, std, nw, w0⟩
    rintro n s5 ⟨i, H5, I5, st5, n5, w5⟩
    rcases turn i n H5 w5 with ⟨stop, fin⟩ | ⟨go, Nx, hNx, step⟩
    · refine thnF (T.done Y rfl rfl rfl hc i [] s5 _ H5 (fun _ _ => False) I5 (still I5 n5) st5 stop) fun r s6 hr => ?_
      obtain ⟨rfl, I6⟩ := hr
      obtain ⟨I7, ⟨m, hn⟩, fC⟩ := back I6
      exact hend D C s6 m H5 I7 fin hn fC ce rfl
    · refine thnF (T.item Y rfl rfl rfl hc i [] s5 _ H5 (fun _ _ => False) I5 (still I5 n5) st5 go) fun r s6 hr => ?_
      obtain ⟨u, rfl, h6⟩ := hr
      refine thnF h6 fun _ s7 h7 => ?_
      obtain ⟨x, H7, I7, r7, y7, st7, n7⟩ := h7
      have I7' := I7.pinned (still I7 n7) (T.obj _ _ st7)
      refine wpAny_mono (pg.run _ s7 _ H7 x u _ I7' r7 (step x H7 y7)) (fun _ s8 h8 => ?_) fun e s8 z => out e s8 z
      obtain ⟨σ8, H8, I8, hw8, q8⟩ := h8
      refine wpAny_mono (pt.run _ s8 σ8 H8 _ I8 q8) (fun b s9 h9 => ?_) fun e s9 z => out e s9 z
      obtain ⟨H9, I9, q9⟩ := h9
      have next : ∀ {s' : Shared} {H' : Hp}, Inv Y ([] ++ pinsAt wr s7.heap) σ8 H' s' → Nx H' → ∃ m, m < n ∧ ∃ i H', Inv Y [] (wipe σ (own.map (·.2))) H' s' ∧ tn i s'.heap ∧ (∀ b ∈ wr, H' b = none) ∧ Wt i m H' := fun {s' H'} I' nx => by
        obtain ⟨m', lt, w'⟩ := hNx H' nx
        have stays : ∀ b ∈ wr, ∀ o, s7.heap.get? b = some o → s'.heap.get? b = some o ∧ H' b = none := fun b hb o z => by
          have z' := I'.pin (b, o) (List.mem_append_right _ (List.mem_append_right _ (mem_pinsAt hb z)))
          exact ⟨z'.1, z'.2.1⟩
        refine ⟨m', lt, i + 1, H', (I'.unpinned (pins := [])).weak (by rw [← hw8, wipe_length]) (fun j v z => ?_), T.keep _ _ _ st7 fun b hb o z => (stays b hb o z).1, fun b hb => ?_, w'⟩
        · rw [← hw8] at z
          exact (wipe_some z).1
        · obtain ⟨o, z, _⟩ := T.obj _ _ st7 b hb
          exact (stays b hb o z).2
      cases b with
      | false =>
        simp only [Bool.false_eq_true, if_false] at q9 ⊢
        exact next I9 q9
      | true =>
        simp only [if_true] at q9 ⊢
        refine wpAny_mono (pe.run _ s9 σ8 H9 _ I9 q9) (fun z s10 h10 => ?_) fun e s10 z => out e s10 z
        obtain ⟨yv, H10, I10, r10, acc, hD10, hz10, nx⟩ := h10
        exact app_ok (X := Y) I10 hD10 hz10 r10 fun s11 I11 => next I11 nx
  exact codeAny_compStart_list loop (T.self X.A 0 _ _ _ std loop)
theorem ps_setLcE {i : Nat} {y : Str} {py : Pos} {elt tg iter : Expr} {ifs : List Expr} {scope : Scope} {own : List (Str × Nat)} {pos spos : Pos} {wi : TI} {g : TG} {tt : TT} {te : TE}
    (hs : X.stack = X.env :: X.outer) (hf : X.env.frame = some X.env.locals) (tk : L2N.Takes X W) (hW : ∀ c d σ σ' H, W c d σ H → W c d σ' H) (hc : X.calm = true) (hN : X.N.Nodup) (hy : X.N[i]? = some y) (hyl : X.env.scope.names.lookup y = some .local)
    (hsw : swapsWith (.ListComp elt [⟨tg, iter, ifs, 0⟩] scope pos) (some (.Name y py)) spos.line X.env = pure true) (hi : PI X tg iter wi) (ok : BlkOk X.N X.env.scope scope own)
    (hg : ∀ s H C cl wr xe, L2N.Takes (blkX X s H scope (compEnvC scope cl C X.env) wr xe) W → PG (blkX X s H scope (compEnvC scope cl C X.env) wr xe) tg g)
    (ht : ∀ s H C cl wr xe, L2N.Takes (blkX X s H scope (compEnvC scope cl C X.env) wr xe) W → PTs (blkX X s H scope (compEnvC scope cl C X.env) wr xe) ifs tt)
    (he : ∀ s H C cl wr xe, L2N.Takes (blkX X s H scope (compEnvC scope cl C X.env) wr xe) W → PE (blkX X s H scope (compEnvC scope cl C X.env) wr xe) elt te)
    (hfs : ∀ x, foldedSetIterable iter X.env x = pure x := by intro _; rfl) :
    PS X (.Assign [.Name y py] (.ListComp elt [⟨tg, iter, ifs, 0⟩] scope pos) spos) (tAsg (tLc wi g tt te (own.map (·.2))) (gName i)) := by
  refine ⟨fun pins s σ H D I q => ?_⟩
  have q' : tLc wi g tt te (own.map (·.2)) σ H (fun x H1 => gName i x σ H1 D.nx) := q
  rw [exec_Assign_Name_used _ _ _ _ hsw]
  refine wpAny_bind (wpAny_standAt (wpAny_bind (wpAny_bind ?_)))
  refine thn (lc_coreE (Qf := fun _ s' => SP X pins D .next s') hc hN hs hf tk hW I hi ok hg ht he hfs q' fun L C s1 m H1 I1 w hn fC ce eC => ?_) fun _ s2 hq => wpAny_pure (wpAny_pure hq)
  show wpAny _ _ (assign (.Name y py) X.env (.ref L)) _ _ _
  subst eC
  refine wpAny_assign_Name (store_ok2 (v := V.ref L) I1 hN hy (.inl hyl) rfl (fun s2 I2 hsb => ?_) (.inr hyl))
  obtain ⟨a, sb, ha⟩ := hsb
  obtain ⟨f0, f1, f2, f3, f4, f5⟩ := fC
  have ne : ce.locals ≠ a := ha.elim (fun z => by rw [z]; exact f1) fun z e => f4 y a z e.symm
  exact ⟨m, hn.sameBut sb ne, fun h3 sb3 => ⟨_, H1, I2.turned (t' := s2.toks) (fun b o hb e => (sb3.2 b hb).trans e) f0 f1 f3 f4 f5, w⟩⟩
theorem pe_lcE {elt tg iter : Expr} {ifs : List Expr} {scope : Scope} {own : List (Str × Nat)} {pos : Pos} {wi : TI} {g : TG} {tt : TT} {te : TE}
    (hs : X.stack = X.env :: X.outer) (hf : X.env.frame = some X.env.locals) (tk : L2N.Takes X W) (hW : ∀ c d σ σ' H, W c d σ H → W c d σ' H) (hc : X.calm = true) (hN : X.N.Nodup) (hi : PI X tg iter wi) (ok : BlkOk X.N X.env.scope scope own)
    (hg : ∀ s H C cl wr xe, L2N.Takes (blkX X s H scope (compEnvC scope cl C X.env) wr xe) W → PG (blkX X s H scope (compEnvC scope cl C X.env) wr xe) tg g)
    (ht : ∀ s H C cl wr xe, L2N.Takes (blkX X s H scope (compEnvC scope cl C X.env) wr xe) W → PTs (blkX X s H scope (compEnvC scope cl C X.env) wr xe) ifs tt)
    (he : ∀ s H C cl wr xe, L2N.Takes (blkX X s H scope (compEnvC scope cl C X.env) wr xe) W → PE (blkX X s H scope (compEnvC scope cl C X.env) wr xe) elt te)
    (hfs : ∀ x, foldedSetIterable iter X.env x = pure x := by intro _; rfl) : PE X (.ListComp elt [⟨tg, iter, ifs, 0⟩] scope pos) (tLc wi g tt te (own.map (·.2))) := by
  refine ⟨fun pins s σ H Q I q => ?_⟩
  rw [eval_ListComp]
  refine lc_coreE hc hN hs hf tk hW I hi ok hg ht he hfs q fun L C s1 m H1 I1 w hn fC ce eC => ?_
  subst eC
  obtain ⟨f0, f1, f2, f3, f4, f5⟩ := fC
  exact ⟨m, hn, fun h3 sb3 => ⟨.ref L, H1, I1.turned (t' := s1.toks) (fun b o hb e => (sb3.2 b hb).trans e) f0 f1 f3 f4 f5, rfl, w⟩⟩
end
end Tw
namespace K06
open PySem PySem.Spec PyProof.Rows L2 Tw
def isE_BadDay : Xc → Option Bool
  | .noState => some false
  | .noPot => some false
  | .badDay => some true
  | _ => none
def isE_BadPot : Xc → Option Bool
  | .noState => some false
  | .noPot => some false
  | .badDay => some false
  | _ => none
def isE_BadRow : Xc → Option Bool
  | .noState => some false
  | .noPot => some false
  | .badDay => some false
  | _ => none
def isE_NoPot : Xc → Option Bool
  | .noState => some false
  | .noPot => some true
  | .badDay => some false
  | _ => none
def isE_NoState : Xc → Option Bool
  | .noState => some true
  | .noPot => some false
  | .badDay => some false
  | _ => none
def isE_TooMany : Xc → Option Bool
  | .noState => some false
  | .noPot => some false
  | .badDay => some false
  | _ => none
def isE_ValueError : Xc → Option Bool
  | .noState => some true
  | .noPot => some true
  | .badDay => some true
  | _ => none
def ct_GardenError : Xc → Option Bool
  | .noState => some true
  | .noPot => some true
  | .badDay => some true
  | _ => none
def isPot : Tag → Option Bool
  | .obj .cactus => some true
  | .obj .pot => some true
  | _ => none
def m_law_cell_at : List D → Option Out := runD (["_law_script", "_law_k"] : List Str).length
    (sSeq (sIf (bT (eOp dLt (eVarB 1) (eCall dLen (aCons (eVarB 0) aNil))))
      (sRet (eOp dIx (eVarB 0) (eVarB 1)))
      sNil)
    (sRet (eC (.int 0))))
def m_is_name : List D → Option Out := runD (["name"] : List Str).length
    (sRet (eAnd (e1 (dIs tab_str) (eVarB 0)) (eAnd (eChain dLe dLe (eC (.int 1)) (eCall dLen (aCons (eVarB 0) aNil)) (eC (.int 12))) (eOp dEq (eMt dStrip (eVarB 0) (aCons (eC (.str "abcdefghijklmnopqrstuvwxyz")) aNil)) (eC (.str ""))))))
def m_is_whole : List D → Option Out := runD (["number"] : List Str).length
    (sRet (eAnd (e1 (dIs tab_int) (eVarB 0)) (eNot (e1 (dIs tab_bool) (eVarB 0)))))
def m_within : List D → Option Out := runD (["number", "low", "high"] : List Str).length
    (sRet (eAnd (eCall (dDef 1 [] (dCall m_is_whole)) (aCons (eVar 0) aNil)) (eChain dLe dLe (eVarB 1) (eVarB 0) (eVarB 2))))
def mi_Pot : List D → EM (List D) := runI (Cl.names .pot) (["self", "name", "gap"] : List Str).length
    (iSeq (iS (sIf (bOr (bNot (bT (eCall (dDef 1 [] (dCall m_is_name)) (aCons (eVar 1) aNil)))) (bNot (bT (eCall (dDef 3 [] (dCall m_within)) (aCons (eVar 2) (aCons (eC (.int 1)) (aCons (eC (.int 60)) aNil)))))))
        (sRaise .badPot)
        sNil))
    (iSeq (iSto "name" (eVar 1))
    (iSeq (iSto "gap" (eVar 2))
    iNil)))
def mi_Cactus : List D → EM (List D) := runI (Cl.names .cactus) (["self", "name", "gap", "rest"] : List Str).length
    (iSeq (iCal (Cl.names .pot) 2 mi_Pot (aCons (eVar 1) (aCons (eVar 2) aNil)))
    (iSeq (iS (sIf (bNot (bT (eCall (dDef 3 [] (dCall m_within)) (aCons (eVar 3) (aCons (eC (.int 0)) (aCons (eOp dSub (eVarB 2) (eC (.int 1))) aNil))))))
        (sRaise .badPot)
        sNil))
    (iSeq (iSto "rest" (eVar 3))
    iNil)))
def m_Garden_size : List D → Option Out := runD (["self", "found", "pot"] : List Str).length
    (sSeq (sSet 1 (e1 (dFld "week") (eVarB 0)))
    (sSeq (sFor (gN 2) (iOf (e1 (dFld "pots") (eVarB 0)))
      (sAug 1 dMul (e1 (dFld "gap") (eVarB 2))))
    (sRet (eVar 1))))
def tb_size : Cl → Option (List D → Option Out)
  | .garden => some m_Garden_size
  | _ => none
def mi_Garden : List D → EM (List D) := runI (Cl.names .garden) (["self", "pots", "cans", "week", "closed", "names", "pot"] : List Str).length
    (iSeq (iS (sIf (bOr (bNot (bT (e1 (dIs tab_list) (eVarB 1)))) (bNot (bT (eCall dAll (aCons (eLc [6] (gN 6) (iOf (eVar 1)) bYes (e1 (dIs isPot) (eVarB 6))) aNil)))))
        (sRaise .badPot)
        sNil))
    (iSeq (iS (sIf (bOr (bNot (bT (eChain dLe dLe (eC (.int 1)) (eCall dLen (aCons (eVarB 1) aNil)) (eC (.int 8))))) (bOr (bNot (bT (eCall (dDef 3 [] (dCall m_within)) (aCons (eVar 2) (aCons (eC (.int 0)) (aCons (eC (.int 8)) aNil)))))) (bNot (bT (eCall (dDef 3 [] (dCall m_within)) (aCons (eVar 3) (aCons (eC (.int 1)) (aCons (eC (.int 14)) aNil))))))))
        (sRaise .tooMany)
        sNil))
    (iSeq (iS (sIf (bOr (bNot (bT (eCall (dDef 1 [] (dCall m_is_whole)) (aCons (eVar 4) aNil)))) (bOr (bT (eOp dLt (eVarB 4) (eC (.int 0)))) (bT (eOp dNe (eOp dShr (eVarB 4) (eVarB 3)) (eC (.int 0))))))
        (sRaise .tooMany)
        sNil))
    (iNames 5 6 (iOf (eVar 1))
    (iSeq (iSto "pots" (eCall dList (aCons (eVarB 1) aNil)))
    (iSeq (iSto "cans" (eVar 2))
    (iSeq (iSto "week" (eVar 3))
    (iSeq (iSto "closed" (eVar 4))
    (iSeq (iSto "order" (eVar 5))
    (iPost .garden (sIf (bT (eOp dGt (eMeth 1 tb_size dCall (eVar 0) aNil) (eC (.int 20000))))
      (sRaise .tooMany)
      sNil)))))))))))
def m_law_garden : List D → Option Out := runD (["_law_spec_here", "_law_pots", "_law_name", "_law_gap", "_law_rest"] : List Str).length
    (sSeq (sSetO 1 (eLst aNil))
    (sSeq (sFor (gT (gsC (gN 2) (gsC (gN 3) (gsC (gN 4) gs0))) 3) (iOf (eOp dIx (eVarB 0) (eC (.int 0))))
      (sIf (bT (eOp dLt (eVarB 4) (eC (.int 0))))
        (gdO 1 (sApp 1 (eCall (dDef 2 [] (dMake mi_Pot .pot)) (aCons (eVar 2) (aCons (eVar 3) aNil)))))
        (gdO 1 (sApp 1 (eCall (dDef 3 [] (dMake mi_Cactus .cactus)) (aCons (eVar 2) (aCons (eVar 3) (aCons (eVar 4) aNil))))))))
    (frz 1 (sRet (eCall (dDef 4 [] (dMake mi_Garden .garden)) (aCons (eVar 1) (aCons (eOp dIx (eVarB 0) (eC (.int 1))) (aCons (eOp dIx (eVarB 0) (eC (.int 2))) (aCons (eOp dIx (eVarB 0) (eC (.int 3))) aNil)))))))))
def m_law_sorts : Xn → Option Out := runE (["_law_error", "_law_found"] : List Str).length fun y =>
    (sSeq (sSet 1 (eLst (aCons (eTk 0 (dIsE isE_BadPot y)) (aCons (eTk 0 (dIsE isE_TooMany y)) (aCons (eTk 0 (dIsE isE_NoPot y)) aNil)))))
    (sRet (eOp dAddU (eVarB 1) (eLst (aCons (eTk 0 (dIsE isE_BadDay y)) (aCons (eTk 0 (dIsE isE_BadRow y)) (aCons (eTk 0 (dIsE isE_NoState y)) aNil)))))))
def m_law_refusal : Xn → Option Out := runE (["_law_error"] : List Str).length fun y =>
    (sSeq (sIf (bOr (bT (eOp dNe (eLm dCount (eTk 0 (dCall (fun _ => m_law_sorts y) [])) (aCons (eC (.bl true)) aNil)) (eC (.int 1)))) (bNot (bT (eTk 0 (dIsE isE_ValueError y)))))
      (sRet (eC .non))
      sNil)
    (sSeq (sIf (bT (eTk 0 (dIsE isE_BadDay y)))
      (sRet (eTup (aCons (eC (.str "bad")) (aCons (eTk 0 (dDay y)) aNil))))
      sNil)
    (sRet (eIf (bT (eTk 0 (dIsE isE_NoPot y))) (eTup (aCons (eC (.str "none")) (aCons (e1 dNeg (eC (.int 1))) aNil))) (eC .non)))))
def m_law_told : List D → Option Out := runD (["_law_due"] : List Str).length
    (sSeq (sIf (bT (eOp dEq (eOp dIx (eVarB 0) (eC (.int 0))) (eC (.str "kept"))))
      (sRet (eTup (aCons (eC (.bl true)) (aCons (eOp dIx (eVarB 0) (eC (.int 1))) aNil))))
      sNil)
    (sRet (eTup (aCons (eC (.bl false)) (aCons (eOp dIx (eVarB 0) (eC (.int 1))) (aCons (eOp dIx (eVarB 0) (eC (.int 2))) aNil))))))
def m_law_behind : List D → Option Out := runD (["_law_spec_here", "_law_state", "_law_wet", "_law_pots", "_law_cans", "_law_week", "_law_closed", "_law_day", "_law_since", "_law_k", "_law_found", "_law_far"] : List Str).length
    (sSeq (sUnp (gT (gsC (gN 3) (gsC (gN 4) (gsC (gN 5) (gsC (gN 6) gs0)))) 4) (eVar 0))
    (sSeq (sUnp (gT (gsC (gN 7) (gsC (gN 8) gs0)) 2) (eVar 1))
    (sSeq (sIf (bAnd (bT (eOp dNe (eVarB 2) (eLst aNil))) (bOr (bT (eOp dEq (eOp dAnd (eOp dShr (eVarB 6) (eVarB 7)) (eC (.int 1))) (eC (.int 1)))) (bT (eOp dGt (eCall dLen (aCons (eVarB 2) aNil)) (eVarB 4)))))
      (sRet (eC .non))
      sNil)
    (sSeq (sFor (gN 9) (iOf (eVar 2))
      (sIf (bT (eOp dLt (eOp dIx (eVarB 8) (eVarB 9)) (eOp dIx (eOp dIx (eVarB 3) (eVarB 9)) (eC (.int 2)))))
        (sRet (eC .non))
        sNil))
    (sSeq (sSetO 10 (eLst aNil))
    (sSeq (sFor (gN 9) (iRg dRng1 (aCons (eCall dLen (aCons (eVarB 3) aNil)) aNil))
      (sSeq (sSet 11 (eIf (bT (eOp dIn (eVarB 9) (eVarB 2))) (eC (.int 0)) (eOp dAddU (eOp dIx (eVarB 8) (eVarB 9)) (eC (.int 1)))))
      (sSeq (sIf (bT (eOp dEq (eVarB 11) (eOp dIx (eOp dIx (eVarB 3) (eVarB 9)) (eC (.int 1)))))
        (sRet (eOp dIx (eOp dIx (eVarB 3) (eVarB 9)) (eC (.int 0))))
        sNil)
      (gdO 10 (sApp 10 (eVar 11))))))
    (sRet (eTup (aCons (eOp dMod (eOp dAddU (eVarB 7) (eC (.int 1))) (eVarB 5)) (aCons (eCall dTuple (aCons (eVarB 10) aNil)) aNil))))))))))
def m_law_walked : List D → Option Out := runD (["_law_spec_here", "_law_rows_here", "_law_state", "_law_first", "_law_names", "_law_k", "_law_wet", "_law_ahead", "_law_name", "_law_gap", "_law_rest"] : List Str).length
    (sSeq (sSet 4 (eLc [8, 9, 10] (gT (gsC (gN 8) (gsC (gN 9) (gsC (gN 10) gs0))) 3) (iOf (eOp dIx (eVarB 0) (eC (.int 0)))) bYes (eVar 8)))
    (sSeq (sFor (gN 5) (iRg dRng1 (aCons (eCall dLen (aCons (eVarB 1) aNil)) aNil))
      (sSeq (sSet 6 (eLc [8] (gN 8) (iOf (eOp dIx (eVarB 1) (eVarB 5))) (bT (eOp dIn (eVarB 8) (eVarB 4))) (eLm dIndex (eVarB 4) (aCons (eVarB 8) aNil))))
      (sSeq (sIf (bT (eOp dLt (eCall dLen (aCons (eVarB 6) aNil)) (eCall dLen (aCons (eOp dIx (eVarB 1) (eVarB 5)) aNil))))
        (sRet (eTup (aCons (eC (.str "none")) (aCons (eOp dAddU (eVarB 3) (eVarB 5)) aNil))))
        sNil)
      (sSeq (sIf (bT (eOp dLt (eCall dLen (aCons (eLc [5] (gN 5) (iRg dRng1 (aCons (eCall dLen (aCons (eVarB 4) aNil)) aNil)) (bT (eOp dIn (eVarB 5) (eVarB 6))) (eVar 5)) aNil)) (eCall dLen (aCons (eVarB 6) aNil))))
        (sRet (eTup (aCons (eC (.str "bad")) (aCons (eOp dAddU (eVarB 3) (eVarB 5)) aNil))))
        sNil)
      (sSeq (sSet 7 (eCall (dDef 3 [] (dCall m_law_behind)) (aCons (eVar 0) (aCons (eVar 2) (aCons (eVar 6) aNil)))))
      (sSeq (sIf (bT (eOp dIsN (eVarB 7) (eC .non)))
        (sRet (eTup (aCons (eC (.str "bad")) (aCons (eOp dAddU (eVarB 3) (eVarB 5)) aNil))))
        sNil)
      (sSeq (sIf (bNot (bT (e1 (dIs tab_tuple) (eVarB 7))))
        (sRet (eTup (aCons (eC (.str "dry")) (aCons (eOp dAddU (eVarB 3) (eVarB 5)) (aCons (eVar 7) aNil)))))
        sNil)
      (sSet 2 (eVar 7)))))))))
    (sRet (eTup (aCons (eC (.str "kept")) (aCons (eVar 2) aNil))))))
def m_Garden_number : List D → Option Out := runD (["self", "state", "found", "k"] : List Str).length
    (sSeq (sIf (bOr (bNot (bT (e1 (dIs tab_tuple) (eVarB 1)))) (bOr (bT (eOp dNe (eCall dLen (aCons (eVarB 1) aNil)) (eC (.int 2)))) (bNot (bT (eCall (dDef 3 [] (dCall m_within)) (aCons (eOp dIx (eVarB 1) (eC (.int 0))) (aCons (eC (.int 0)) (aCons (eOp dSub (e1 (dFld "week") (eVarB 0)) (eC (.int 1))) aNil))))))))
      (sRaise .noState)
      sNil)
    (sSeq (sIf (bOr (bNot (bT (e1 (dIs tab_tuple) (eOp dIx (eVarB 1) (eC (.int 1)))))) (bT (eOp dNe (eCall dLen (aCons (eOp dIx (eVarB 1) (eC (.int 1))) aNil)) (eCall dLen (aCons (e1 (dFld "pots") (eVarB 0)) aNil)))))
      (sRaise .noState)
      sNil)
    (sSeq (sSet 2 (eOp dIx (eVarB 1) (eC (.int 0))))
    (sSeq (sFor (gN 3) (iRg dRng1 (aCons (eCall dLen (aCons (e1 (dFld "pots") (eVarB 0)) aNil)) aNil))
      (sSeq (sIf (bNot (bT (eCall (dDef 3 [] (dCall m_within)) (aCons (eOp dIx (eOp dIx (eVarB 1) (eC (.int 1))) (eVarB 3)) (aCons (eC (.int 0)) (aCons (eOp dSub (e1 (dFld "gap") (eOp dIx (e1 (dFld "pots") (eVarB 0)) (eVarB 3))) (eC (.int 1))) aNil))))))
        (sRaise .noState)
        sNil)
      (sSet 2 (eOp dAddU (eOp dMulU (eVarB 2) (e1 (dFld "gap") (eOp dIx (e1 (dFld "pots") (eVarB 0)) (eVarB 3)))) (eOp dIx (eOp dIx (eVarB 1) (eC (.int 1))) (eVarB 3))))))
    (sRet (eVar 2))))))
def m_Cactus_may : List D → Option Out := runD (["self", "since"] : List Str).length
    (sRet (eOp dGe (eVarB 1) (e1 (dFld "rest") (eVarB 0))))
def m_Pot_may : List D → Option Out := runD (["self", "since"] : List Str).length
    (sRet (eC (.bl true)))
noncomputable def m_bits_of : List D → Option Out := runD (["number", "found", "place"] : List Str).length
    (sSeq (sSetO 1 (eLst aNil))
    (sSeq (sSet 2 (eC (.int 0)))
    (sSeq (sWhile (bT (eOp dGt (eVarB 0) (eC (.int 0))))
      (sSeq (sIf (bT (eOp dEq (eOp dAnd (eVarB 0) (eC (.int 1))) (eC (.int 1))))
        (gdO 1 (sApp 1 (eVar 2)))
        sNil)
      (sSeq (sSet 0 (eOp dShr (eVarB 0) (eC (.int 1))))
      (sAug 2 (dI (fun _ _ => true) fun i j => i + j) (eC (.int 1))))))
    (sRetV 1))))
def tb_may : Cl → Option (List D → Option Out)
  | .cactus => some m_Cactus_may
  | .pot => some m_Pot_may
  | _ => none
noncomputable def m_allowed : List D → Option Out := runD (["garden", "state", "chosen", "day", "since", "places", "place"] : List Str).length
    (sSeq (sUnp (gT (gsC (gN 3) (gsC (gN 4) gs0)) 2) (eVar 1))
    (sSeq (sSet 5 (eCall (dDef 1 [] (dCall m_bits_of)) (aCons (eVar 2) aNil)))
    (sSeq (sIf (bOr (bT (eOp dEq (eOp dAnd (eOp dShr (e1 (dFld "closed") (eVarB 0)) (eVarB 3)) (eC (.int 1))) (eC (.int 1)))) (bT (eOp dGt (eCall dLen (aCons (eVarB 5) aNil)) (e1 (dFld "cans") (eVarB 0)))))
      (sRet (eOp dEq (eVarB 2) (eC (.int 0))))
      sNil)
    (sSeq (sFor (gN 6) (iOf (eVar 5))
      (sIf (bOr (bT (eOp dGe (eVarB 6) (eCall dLen (aCons (eVarB 4) aNil)))) (bNot (bT (eMeth 2 tb_may dCall (eOp dIx (e1 (dFld "pots") (eVarB 0)) (eVarB 6)) (aCons (eOp dIx (eVarB 4) (eVarB 6)) aNil)))))
        (sRet (eC (.bl false)))
        sNil))
    (sRet (eC (.bl true)))))))
def m_behind : List D → Option Out := runD (["garden", "state", "chosen", "day", "since", "found", "k"] : List Str).length
    (sSeq (sUnp (gT (gsC (gN 3) (gsC (gN 4) gs0)) 2) (eVar 1))
    (sSeq (sSetO 5 (eLst aNil))
    (sSeq (sFor (gN 6) (iRg dRng1 (aCons (eCall dLen (aCons (eVarB 4) aNil)) aNil))
      (sIf (bT (eOp dEq (eOp dAnd (eOp dShr (eVarB 2) (eVarB 6)) (eC (.int 1))) (eC (.int 1))))
        (gdO 5 (sApp 5 (eC (.int 0))))
        (sIf (bT (eOp dEq (eOp dAddU (eOp dIx (eVarB 4) (eVarB 6)) (eC (.int 1))) (e1 (dFld "gap") (eOp dIx (e1 (dFld "pots") (eVarB 0)) (eVarB 6)))))
          (sRet (eC .non))
          (gdO 5 (sApp 5 (eOp dAddU (eOp dIx (eVarB 4) (eVarB 6)) (eC (.int 1))))))))
    (sRet (eTup (aCons (eOp dMod (eOp dAddU (eVarB 3) (eC (.int 1))) (e1 (dFld "week") (eVarB 0))) (aCons (eCall dTuple (aCons (eVarB 5) aNil)) aNil)))))))
def m_Garden_place : List D → Option Out := runD (["self", "name"] : List Str).length
    (sSeq (sIf (bOr (bNot (bT (e1 (dIs tab_str) (eVarB 1)))) (bT (eOp dNinO (eVarB 1) (e1 (dFld "order") (eVarB 0)))))
      (sRaise .noPot)
      sNil)
    (sRet (eOp dGetO (e1 (dFld "order") (eVarB 0)) (eVarB 1))))
def tb_place : Cl → Option (List D → Option Out)
  | .garden => some m_Garden_place
  | _ => none
def m_chosen_by : List D → Option Out := runD (["garden", "names", "day", "bits", "places", "place", "name"] : List Str).length
    (sSeq (sSet 3 (eC (.int 0)))
    (sSeq (sSet 4 (eLcE [6] (gN 6) (iOf (eVar 1)) bYes (eMeth 2 tb_place dCall (eVar 0) (aCons (eVar 6) aNil))))
    (sSeq (sFor (gN 5) (iOf (eVar 4))
      (sSeq (sIf (bT (eOp dEq (eOp dAnd (eOp dShr (eVarB 3) (eVarB 5)) (eC (.int 1))) (eC (.int 1))))
        (sRaiseF .badDay (eVar 2))
        sNil)
      (sSet 3 (eOp dOr (eVarB 3) (eOp dShl (eC (.int 1)) (eVarB 5))))))
    (sRet (eVar 3)))))
def m_dry_pot : List D → Option Out := runD (["garden", "state", "chosen", "since", "k"] : List Str).length
    (sSeq (sSet 3 (eOp dIx (eVarB 1) (eC (.int 1))))
    (sSeq (sFor (gN 4) (iRg dRng1 (aCons (eCall dLen (aCons (eVarB 3) aNil)) aNil))
      (sIf (bAnd (bT (eOp dEq (eOp dAnd (eOp dShr (eVarB 2) (eVarB 4)) (eC (.int 1))) (eC (.int 0)))) (bT (eOp dEq (eOp dAddU (eOp dIx (eVarB 3) (eVarB 4)) (eC (.int 1))) (e1 (dFld "gap") (eOp dIx (e1 (dFld "pots") (eVarB 0)) (eVarB 4))))))
        (sRet (e1 (dFld "name") (eOp dIx (e1 (dFld "pots") (eVarB 0)) (eVarB 4))))
        sNil))
    (sRet (eC .non))))
def tb_number : Cl → Option (List D → Option Out)
  | .garden => some m_Garden_number
  | _ => none
noncomputable def m_followed : List D → Option Out := runD (["garden", "rows", "state", "first", "k", "chosen", "ahead"] : List Str).length
    (sSeq (sDrop (eMeth 2 tb_number dCall (eVar 0) (aCons (eVar 2) aNil)))
    (sSeq (sFor (gN 4) (iRg dRng1 (aCons (eCall dLen (aCons (eVarB 1) aNil)) aNil))
      (sSeq (sSet 5 (eCall (dDef 3 [] (dCall m_chosen_by)) (aCons (eVar 0) (aCons (eOp dIx (eVarB 1) (eVarB 4)) (aCons (eOp dAddU (eVarB 3) (eVarB 4)) aNil)))))
      (sSeq (sIf (bNot (bT (eCall (dDef 3 [] (dCall m_allowed)) (aCons (eVar 0) (aCons (eVar 2) (aCons (eVar 5) aNil))))))
        (sRaiseF .badDay (eOp dAddU (eVarB 3) (eVarB 4)))
        sNil)
      (sSeq (sSet 6 (eCall (dDef 3 [] (dCall m_behind)) (aCons (eVar 0) (aCons (eVar 2) (aCons (eVar 5) aNil)))))
      (sSeq (sIf (bT (eOp dIsN (eVarB 6) (eC .non)))
        (sRet (eTup (aCons (eC (.bl false)) (aCons (eOp dAddU (eVarB 3) (eVarB 4)) (aCons (eCall (dDef 3 [] (dCall m_dry_pot)) (aCons (eVar 0) (aCons (eVar 2) (aCons (eVar 5) aNil)))) aNil)))))
        sNil)
      (sSet 2 (eVar 6)))))))
    (sRet (eTup (aCons (eC (.bl true)) (aCons (eVar 2) aNil))))))
def m_Garden_fresh : List D → Option Out := runD (["self", "pot"] : List Str).length
    (sRet (eTup (aCons (eC (.int 0)) (aCons (eCall dTuple (aCons (eLc [1] (gN 1) (iOf (e1 (dFld "pots") (eVarB 0))) bYes (eC (.int 0))) aNil)) aNil))))
def tb_fresh : Cl → Option (List D → Option Out)
  | .garden => some m_Garden_fresh
  | _ => none
noncomputable def m_kept : List D → Option Out := runD (["garden", "rows"] : List Str).length
    (sRet (eCall (dDef 4 [.int 0] (dCall m_followed)) (aCons (eVar 0) (aCons (eVar 1) (aCons (eMeth 1 tb_fresh dCall (eVar 0) aNil) aNil)))))
noncomputable def m_law_right : List D → Option Out := runD (["_law_garden_here", "_law_spec_here", "_law_rows_here", "_law_state", "_law_first", "_law_way", "_law_due", "_law_handed", "_law_found", "_law_error", "_law_told_here", "_law_row"] : List Str).length
    (sSeq (sSet 6 (eCall (dDef 4 [] (dCall m_law_walked)) (aCons (eVar 1) (aCons (eVar 2) (aCons (eVar 3) (aCons (eVar 4) aNil))))))
    (sSeq (sSet 7 (eLc [11] (gN 11) (iOf (eVar 2)) bYes (eCall dList (aCons (eVarB 11) aNil))))
    (sSeq (sTryAs 9 ct_GardenError
      (sIf (bT (eOp dEq (eVarB 5) (eC (.int 0))))
        (sSet 8 (eCall (dDef 2 [] (dCall m_kept)) (aCons (eVar 0) (aCons (eVar 7) aNil))))
        (sIf (bT (eOp dEq (eVarB 4) (eC (.int 0))))
          (sSet 8 (eCall (dDef 4 [.int 0] (dCall m_followed)) (aCons (eVar 0) (aCons (eVar 7) (aCons (eVar 3) aNil)))))
          (sSet 8 (eCall (dDef 4 [] (dCall m_followed)) (aCons (eVar 0) (aCons (eVar 7) (aCons (eVar 3) (aCons (eVar 4) aNil))))))))
      (fun y => (sSeq (sSet 10 (eTk 9 (dCall (fun _ => m_law_refusal y) [])))
      (sRet (eAnd (eOp dEq (eVarB 7) (eVarB 2)) (eAnd (eOp dNotN (eVarB 10) (eC .non)) (eOp dEq (eVarB 10) (eIf (bT (eOp dEq (eOp dIx (eVarB 6) (eC (.int 0))) (eC (.str "bad")))) (eVar 6) (eTup (aCons (eOp dIx (eVarB 6) (eC (.int 0))) (aCons (e1 dNeg (eC (.int 1))) aNil)))))))))))
    (sSeq (sIf (bOr (bT (eOp dEq (eOp dIx (eVarB 6) (eC (.int 0))) (eC (.str "bad")))) (bOr (bT (eOp dEq (eOp dIx (eVarB 6) (eC (.int 0))) (eC (.str "none")))) (bT (eOp dNe (eVarB 7) (eVarB 2)))))
      (sRet (eC (.bl false)))
      sNil)
    (sRet (eAnd (e1 (dIs tab_tuple) (eVarB 8)) (eAnd (e1 (dIs tab_bool) (eOp dIx (eVarB 8) (eC (.int 0)))) (eOp dEq (eCall dStrU (aCons (eVarB 8) aNil)) (eCall dStrU (aCons (eCall (dDef 1 [] (dCall m_law_told)) (aCons (eVar 6) aNil)) aNil))))))))))
def m_law_draw : List D → Option Out := runD (["_law_cell", "_law_k", "_law_many", "_law_primes", "_law_blend"] : List Str).length
    (sSeq (sSet 3 (eTup (aCons (eC (.int 1000003)) (aCons (eC (.int 1000033)) (aCons (eC (.int 1000037)) (aCons (eC (.int 1000039)) (aCons (eC (.int 1000081)) (aCons (eC (.int 1000099)) (aCons (eC (.int 1000117)) (aCons (eC (.int 1000121)) aNil))))))))))
    (sSeq (sSet 4 (eOp dAddU (eOp dAddU (eOp dMulU (eVarB 0) (eC (.int 48271))) (eOp dMulU (eVarB 1) (eC (.int 69621)))) (eOp dMulU (eOp dMod (eOp dDiv (eVarB 0) (eC (.int 1000003))) (eC (.int 1000003))) (eC (.int 40692)))))
    (sRet (eOp dMod (eOp dMod (eVarB 4) (eOp dIx (eVarB 3) (eOp dMod (eVarB 1) (eC (.int 8))))) (eVarB 2)))))
def m_law_steps : List D → Option Out := runD (["_law_spec_here", "_law_state", "_law_found", "_law_chosen", "_law_wet", "_law_ahead", "_law_k"] : List Str).length
    (sSeq (sSetO 2 (eLst aNil))
    (sSeq (sFor (gN 3) (iRg dRng1 (aCons (eOp dShl (eC (.int 1)) (eCall dLen (aCons (eOp dIx (eVarB 0) (eC (.int 0))) aNil))) aNil))
      (sSeq (sSet 4 (eLc [6] (gN 6) (iRg dRng1 (aCons (eCall dLen (aCons (eOp dIx (eVarB 0) (eC (.int 0))) aNil)) aNil)) (bT (eOp dEq (eOp dAnd (eOp dShr (eVarB 3) (eVarB 6)) (eC (.int 1))) (eC (.int 1)))) (eVar 6)))
      (sSeq (sSet 5 (eCall (dDef 3 [] (dCall m_law_behind)) (aCons (eVar 0) (aCons (eVar 1) (aCons (eVar 4) aNil)))))
      (sIf (bT (e1 (dIs tab_tuple) (eVarB 5)))
        (gdO 2 (sApp 2 (eTup (aCons (eVar 3) (aCons (eVar 5) aNil)))))
        sNil))))
    (sRetV 2)))
def m_law_rows : List D → Option Out := runD (["_law_spec_here", "_law_script", "_law_first", "_law_many", "_law_wild", "_law_names", "_law_state", "_law_rows_here", "_law_at", "_law_cell", "_law_steps_here", "_law_row", "_law_chosen", "_law_odd", "_law_name", "_law_gap", "_law_rest", "_law_k"] : List Str).length
    (sSeq (sSet 5 (eLc [14, 15, 16] (gT (gsC (gN 14) (gsC (gN 15) (gsC (gN 16) gs0))) 3) (iOf (eOp dIx (eVarB 0) (eC (.int 0)))) bYes (eVar 14)))
    (sSeq (sSet 6 (eTup (aCons (eC (.int 0)) (aCons (eCall dTuple (aCons (eLc [14] (gN 14) (iOf (eVar 5)) bYes (eC (.int 0))) aNil)) aNil))))
    (sSeq (sSetO 7 (eLst aNil))
    (sSeq (sFor (gN 8) (iRg dRng1 (aCons (eVarB 3) aNil))
      (sSeq (sSet 9 (eOp dAddU (eCall (dDef 2 [] (dCall m_law_cell_at)) (aCons (eVar 1) (aCons (eOp dAddU (eVarB 2) (eVarB 8)) aNil))) (eOp dMulU (eC (.int 7)) (eVarB 8))))
      (sSeq (sSet 10 (eCall (dDef 2 [] (dCall m_law_steps)) (aCons (eVar 0) (aCons (eVar 6) aNil))))
      (sSeq (sSet 11 (eSl dSlU (eLc [14] (gN 14) (iOf (eVar 5)) (bT (eOp dEq (eCall (dDef 3 [] (dCall m_law_draw)) (aCons (eVar 9) (aCons (eCall dLen (aCons (eVarB 14) aNil)) (aCons (eC (.int 2)) aNil)))) (eC (.int 0)))) (eVar 14)) oNone (oSome (eC (.int 2)))))
      (sSeq (sIf (bAnd (bT (eOp dNe (eVarB 10) (eLst aNil))) (bT (eOp dGt (eCall (dDef 3 [] (dCall m_law_draw)) (aCons (eVar 9) (aCons (eC (.int 5)) (aCons (eC (.int 8)) aNil)))) (eC (.int 0)))))
        (sSeq (sUnp (gT (gsC (gN 12) (gsC (gN 6) gs0)) 2) (eOp dIx (eVarB 10) (eCall (dDef 3 [] (dCall m_law_draw)) (aCons (eVar 9) (aCons (eC (.int 6)) (aCons (eCall dLen (aCons (eVarB 10) aNil)) aNil))))))
        (sSet 11 (eLc [17] (gN 17) (iRg dRng1 (aCons (eCall dLen (aCons (eVarB 5) aNil)) aNil)) (bT (eOp dEq (eOp dAnd (eOp dShr (eVarB 12) (eVarB 17)) (eC (.int 1))) (eC (.int 1)))) (eOp dIx (eVarB 5) (eVarB 17)))))
        sNil)
      (sSeq (sIf (bAnd (bT (eVarB 4)) (bT (eOp dEq (eCall (dDef 3 [] (dCall m_law_draw)) (aCons (eVar 9) (aCons (eC (.int 7)) (aCons (eC (.int 12)) aNil)))) (eC (.int 0)))))
        (sSeq (sSet 13 (eLst (aCons (eLst (aCons (eOp dIx (eVarB 5) (eC (.int 0))) aNil)) (aCons (eLst (aCons (eC (.str "zz")) aNil)) (aCons (eLst (aCons (eOp dIx (eVarB 5) (eC (.int 0))) (aCons (eOp dIx (eVarB 5) (eC (.int 0))) (aCons (eC (.str "zz")) aNil)))) (aCons (eLst (aCons (eC .non) aNil)) (aCons (eLst (aCons (eC (.int 3)) aNil)) (aCons (eLst (aCons (eLst (aCons (eC (.str "ivy")) aNil)) aNil)) (aCons (eLst (aCons (eC (.str "")) aNil)) (aCons (eLst (aCons (eC (.str "ivy\n")) aNil)) aNil))))))))))
        (sSet 11 (eOp dAddU (eVarB 11) (eOp dIx (eVarB 13) (eCall (dDef 3 [] (dCall m_law_draw)) (aCons (eVar 9) (aCons (eC (.int 4)) (aCons (eC (.int 8)) aNil))))))))
        sNil)
      (gdO 7 (sApp 7 (eIf (bT (eOp dEq (eOp dMod (eVarB 9) (eC (.int 3))) (eC (.int 0)))) (e1 dRevL (eVarB 11)) (eVar 11))))))))))
    (sRetV 7)))))
def m_law_spec : List D → Option Out := runD (["_law_script", "_law_first", "_law_cell", "_law_other", "_law_third", "_law_count", "_law_most", "_law_names", "_law_pots", "_law_k", "_law_gap", "_law_rest", "_law_week", "_law_closed"] : List Str).length
    (sSeq (sSet 2 (eCall (dDef 2 [] (dCall m_law_cell_at)) (aCons (eVar 0) (aCons (eVar 1) aNil))))
    (sSeq (sSet 3 (eCall (dDef 2 [] (dCall m_law_cell_at)) (aCons (eVar 0) (aCons (eOp dAddU (eVarB 1) (eC (.int 1))) aNil))))
    (sSeq (sSet 4 (eCall (dDef 2 [] (dCall m_law_cell_at)) (aCons (eVar 0) (aCons (eOp dAddU (eVarB 1) (eC (.int 2))) aNil))))
    (sSeq (sSet 5 (eOp dAddU (eC (.int 1)) (eOp dMod (eVarB 2) (eC (.int 3)))))
    (sSeq (sSet 6 (eC (.int 3)))
    (sSeq (sIf (bAnd (bT (eOp dEq (eVarB 5) (eC (.int 3)))) (bT (eOp dGt (eOp dMod (eOp dDiv (eVarB 2) (eC (.int 3))) (eC (.int 3))) (eC (.int 0)))))
      (sSet 6 (eC (.int 2)))
      sNil)
    (sSeq (sIf (bT (eOp dEq (eOp dMod (eOp dDiv (eVarB 2) (eC (.int 9))) (eC (.int 6))) (eC (.int 4))))
      (sSeq (sSet 5 (eC (.int 1)))
      (sSet 6 (eC (.int 9))))
      sNil)
    (sSeq (sSet 7 (eTup (aCons (eC (.str "ivy")) (aCons (eC (.str "iv")) (aCons (eC (.str "fern")) (aCons (eC (.str "fernz")) (aCons (eC (.str "a")) aNil)))))))
    (sSeq (sSetO 8 (eLst aNil))
    (sSeq (sFor (gN 9) (iRg dRng1 (aCons (eVarB 5) aNil))
      (sSeq (sSet 10 (eOp dAddU (eC (.int 1)) (eCall (dDef 3 [] (dCall m_law_draw)) (aCons (eVar 3) (aCons (eVar 9) (aCons (eVar 6) aNil))))))
      (sSeq (sSet 11 (e1 dNeg (eC (.int 1))))
      (sSeq (sIf (bT (eOp dEq (eCall (dDef 3 [] (dCall m_law_draw)) (aCons (eVar 3) (aCons (eOp dAddU (eVarB 9) (eC (.int 4))) (aCons (eC (.int 4)) aNil)))) (eC (.int 0))))
        (sSet 11 (eCall (dDef 3 [] (dCall m_law_draw)) (aCons (eVar 3) (aCons (eOp dAddU (eVarB 9) (eC (.int 5))) (aCons (eVar 10) aNil)))))
        sNil)
      (gdO 8 (sApp 8 (eTup (aCons (eOp dIx (eVarB 7) (eOp dMod (eOp dAddU (eOp dDiv (eVarB 2) (eC (.int 54))) (eVarB 9)) (eC (.int 5)))) (aCons (eVar 10) (aCons (eVar 11) aNil))))))))))
    (sSeq (sSet 12 (eOp dAddU (eC (.int 1)) (eCall dInt (aCons (eOp dEq (eOp dMod (eVarB 4) (eC (.int 3))) (eC (.int 0))) aNil))))
    (sSeq (sIf (bT (eOp dEq (eOp dMod (eOp dDiv (eVarB 4) (eC (.int 3))) (eC (.int 8))) (eC (.int 3))))
      (sSet 12 (eOp dAddU (eC (.int 1)) (eOp dMod (eOp dDiv (eVarB 4) (eC (.int 24))) (eC (.int 3)))))
      sNil)
    (sSeq (sIf (bT (eOp dEq (eOp dMod (eOp dDiv (eVarB 2) (eC (.int 9))) (eC (.int 6))) (eC (.int 4))))
      (sSet 12 (eOp dAddU (eC (.int 1)) (eOp dMod (eVarB 4) (eC (.int 14)))))
      sNil)
    (sSeq (sSet 13 (eC (.int 0)))
    (sSeq (sIf (bT (eOp dEq (eOp dMod (eOp dDiv (eVarB 4) (eC (.int 72))) (eC (.int 3))) (eC (.int 1))))
      (sSet 13 (eOp dMod (eOp dDiv (eVarB 4) (eC (.int 216))) (eOp dShl (eC (.int 1)) (eVarB 12))))
      sNil)
    (frz 8 (sRet (eTup (aCons (eVar 8) (aCons (eOp dIx (eTup (aCons (eC (.int 1)) (aCons (eC (.int 2)) (aCons (eC (.int 1)) (aCons (eC (.int 0)) (aCons (eC (.int 3)) (aCons (eC (.int 1)) aNil))))))) (eOp dMod (eOp dDiv (eVarB 4) (eC (.int 5))) (eC (.int 6)))) (aCons (eVar 12) (aCons (eVar 13) aNil))))))))))))))))))))))
def m_law_states : List D → Option Out := runD (["_law_spec_here", "_law_found", "_law_name", "_law_gap", "_law_rest", "_law_longer", "_law_since", "_law_states_here", "_law_day", "_law_far"] : List Str).length
    (sSeq (sSetO 1 (eLst (aCons (eTup aNil) aNil)))
    (sSeq (sFor (gT (gsC (gN 2) (gsC (gN 3) (gsC (gN 4) gs0))) 3) (iOf (eOp dIx (eVarB 0) (eC (.int 0))))
      (sSeq (sSetO 5 (eLst aNil))
      (sSeq (frz 1 (sFor (gN 6) (iOf (eVar 1))
        (gdO 5 (sExt 5 (eLc [9] (gN 9) (iRg dRng1 (aCons (eVarB 3) aNil)) bYes (eOp dAddU (eVarB 6) (eTup (aCons (eVar 9) aNil))))))))
      (sMove 1 5))))
    (sSeq (sSetO 7 (eLst aNil))
    (sSeq (sFor (gN 8) (iRg dRng1 (aCons (eOp dIx (eVarB 0) (eC (.int 2))) aNil))
      (frz 1 (gdO 7 (sExt 7 (eLc [6] (gN 6) (iOf (eVar 1)) bYes (eTup (aCons (eVar 8) (aCons (eVar 6) aNil))))))))
    (sRetV 7)))))
noncomputable def m_law : List D → Option Out := runD (["_law_script", "_law_spec_here", "_law_garden_here", "_law_rows_here", "_law_states_here", "_law_state", "_law_first", "_law_many", "_law_two", "_law_error"] : List Str).length
    (sSeq (sSet 1 (eCall (dDef 2 [] (dCall m_law_spec)) (aCons (eVar 0) (aCons (eC (.int 0)) aNil))))
    (sSeq (sSet 2 (eCall (dDef 1 [] (dCall m_law_garden)) (aCons (eVar 1) aNil)))
    (sSeq (sSet 3 (eCall (dDef 5 [] (dCall m_law_rows)) (aCons (eVar 1) (aCons (eVar 0) (aCons (eC (.int 3)) (aCons (eCall dMin2 (aCons (eC (.int 40)) (aCons (eCall dMax2 (aCons (eC (.int 0)) (aCons (eOp dSub (eCall dLen (aCons (eVarB 0) aNil)) (eC (.int 3))) aNil))) aNil))) (aCons (eC (.bl true)) aNil)))))))
    (sSeq (sSet 4 (eCall (dDef 1 [] (dCall m_law_states)) (aCons (eVar 1) aNil)))
    (sSeq (sSet 5 (eOp dIx (eVarB 4) (eOp dMod (eCall (dDef 2 [] (dCall m_law_cell_at)) (aCons (eVar 0) (aCons (eC (.int 3)) aNil))) (eCall dLen (aCons (eVarB 4) aNil)))))
    (sSeq (sSet 6 (eOp dMulU (eOp dMod (eCall (dDef 2 [] (dCall m_law_cell_at)) (aCons (eVar 0) (aCons (eC (.int 4)) aNil))) (eC (.int 1000))) (eOp dMod (eOp dDiv (eCall (dDef 2 [] (dCall m_law_cell_at)) (aCons (eVar 0) (aCons (eC (.int 4)) aNil))) (eC (.int 1000))) (eC (.int 2)))))
    (sSeq (sFor (gN 7) (iOf (eLst (aCons (eCall dLen (aCons (eVarB 3) aNil)) (aCons (eOp dDiv (eCall dLen (aCons (eVarB 3) aNil)) (eC (.int 2))) (aCons (eC (.int 1)) (aCons (eC (.int 0)) aNil))))))
      (sSeq (sIf (bNot (bT (eCall (dDef 6 [] (dCall m_law_right)) (aCons (eVar 2) (aCons (eVar 1) (aCons (eSl dSlU (eVarB 3) oNone (oSome (eVarB 7))) (aCons (eOp dIx (eVarB 4) (eC (.int 0))) (aCons (eC (.int 0)) (aCons (eC (.int 0)) aNil)))))))))
        (sRet (eC (.bl false)))
        sNil)
      (sIf (bNot (bT (eCall (dDef 6 [] (dCall m_law_right)) (aCons (eVar 2) (aCons (eVar 1) (aCons (eSl dSlU (eVarB 3) oNone (oSome (eVarB 7))) (aCons (eVar 5) (aCons (eVar 6) (aCons (eC (.int 1)) aNil)))))))))
        (sRet (eC (.bl false)))
        sNil)))
    (sSeq (sSet 8 (eLst (aCons (eTup (aCons (eC (.str "a")) (aCons (eC (.int 1)) (aCons (e1 dNeg (eC (.int 1))) aNil)))) (aCons (eTup (aCons (eC (.str "b")) (aCons (eC (.int 1)) (aCons (e1 dNeg (eC (.int 1))) aNil)))) aNil))))
    (sSeq (sIf (bT (eOp dNe (eCall (dDef 2 [] (dCall m_kept)) (aCons (eCall (dDef 1 [] (dCall m_law_garden)) (aCons (eTup (aCons (eVar 8) (aCons (eC (.int 0)) (aCons (eC (.int 1)) (aCons (eC (.int 0)) aNil))))) aNil)) (aCons (eLst (aCons (eLst aNil) aNil)) aNil))) (eTup (aCons (eC (.bl false)) (aCons (eC (.int 0)) (aCons (eC (.str "a")) aNil))))))
      (sRet (eC (.bl false)))
      sNil)
    (sSeq (sIf (bNot (bT (eCall (dDef 6 [] (dCall m_law_right)) (aCons (eCall (dDef 1 [] (dCall m_law_garden)) (aCons (eTup (aCons (eVar 8) (aCons (eC (.int 2)) (aCons (eC (.int 1)) (aCons (eC (.int 0)) aNil))))) aNil)) (aCons (eTup (aCons (eVar 8) (aCons (eC (.int 2)) (aCons (eC (.int 1)) (aCons (eC (.int 0)) aNil))))) (aCons (eLst (aCons (eLst (aCons (eC (.str "a")) (aCons (eC (.str "a")) aNil))) aNil)) (aCons (eTup (aCons (eC (.int 0)) (aCons (eTup (aCons (eC (.int 0)) (aCons (eC (.int 0)) aNil))) aNil))) (aCons (eC (.int 0)) (aCons (eC (.int 0)) aNil)))))))))
      (sRet (eC (.bl false)))
      sNil)
    (sSeq (sTryAs 9 ct_GardenError
      (sDrop (eCall (dDef 4 [.int 0] (dCall m_followed)) (aCons (eVar 2) (aCons (eVar 3) (aCons (eTup (aCons (e1 (dFld "week") (eVarB 2)) (aCons (eOp dIx (eVarB 5) (eC (.int 1))) aNil))) aNil)))))
      (fun y => (sRet (eAnd (eOp dEq (eTk 9 (dCall (fun _ => m_law_sorts y) [])) (eOp dAddU (eOp dMulU (eLst (aCons (eC (.bl false)) aNil)) (eC (.int 5))) (eLst (aCons (eC (.bl true)) aNil)))) (eTk 9 (dIsE isE_ValueError y))))))
    (sRet (eC (.bl false))))))))))))))
end K06
namespace K06
open PySem PySem.Spec PyProof.Rows L2 Tw
/-! the program's defs, in plain words -/
theorem atI_nat {α : Type} (xs : List α) (k : Nat) : atI xs (k : Int) = xs[k]? := by
  unfold atI ixN
  by_cases h : k < xs.length
  · rw [if_pos (by omega), if_pos (by omega)]
    simp
  · rw [if_pos (by omega), if_neg (by omega)]
    rw [List.getElem?_eq_none (by omega)]
    rfl
theorem for_ev {t : Tg} {fi : Ro → EM (List D)} {g : Ro → Option Fl} {ρ : Ro} {ds : List D} {r : Option Fl} (h : fi ρ = some (.ok ds)) (h2 : forD t g ds ρ = r) : sFor t fi g ρ = r := by unfold sFor; rw [h]; exact h2
theorem cell_is (ns : List Int) (k : Nat) : m_law_cell_at [.scr ns, .int k] = some (.ret (.int (ns.getD k 0))) := by
  have hc : eOp dLt (eVarB 1) (eCall dLen (aCons (eVarB 0) aNil)) (startE 2 [.scr ns, .int k]) = some (.ok (.bl (decide ((k : Int) < ns.length)))) := op_ev (d := .int k) (e := .int ns.length) rfl (call_ev (ds := [.scr ns]) rfl rfl) rfl
  by_cases h : k < ns.length
  · refine run_ret (seq_rt (if_t (bT_ev (hc.trans ?_)) (ret_ev (op_ev (d := .scr ns) (e := .int k) rfl rfl ?_))))
    · rw [decide_eq_true (by omega)]
    · show (atI ns (k : Int)).map (fun n => Except.ok (D.int n)) = _
      rw [atI_nat, List.getD_eq_getElem?_getD, List.getElem?_eq_getElem h]; rfl
  · refine run_ret ((seq_nx (if_f (bT_ev (hc.trans ?_)) rfl)).trans (ret_ev ?_))
    · rw [decide_eq_false (by omega)]
    · rw [List.getD_eq_getElem?_getD, List.getElem?_eq_none (by omega)]; rfl
theorem within_is (i lo hi : Int) : m_within [.int i, .int lo, .int hi] = some (.ret (.bl (decide (lo ≤ i) && decide (i ≤ hi)))) := by
  have hw : m_is_whole [.int i] = some (.ret (.bl true)) := rfl
  unfold m_within runD
  by_cases h1 : lo ≤ i <;> simp [startE, sRet, eAnd, eCall, aCons, aNil, eVar, eVarB, ok, bnd_ok, dDef, dCall, hw, toB, eChain, dLe, dB, h1, toS_ok, outOf]
theorem within_no {i lo hi : Int} (h : i < lo ∨ hi < i) : dDef 3 [] (dCall m_within) [.int i, .int lo, .int hi] = some (.ok (.bl false)) := by
  refine (def_all rfl).trans (call_ret ?_)
  rw [within_is]
  rcases h with h | h
  · rw [decide_eq_false (by omega)]; rfl
  · rw [decide_eq_false (show ¬ i ≤ hi by omega), Bool.and_false]
theorem within_yes {i lo hi : Int} (h : lo ≤ i ∧ i ≤ hi) : dDef 3 [] (dCall m_within) [.int i, .int lo, .int hi] = some (.ok (.bl true)) := by
  refine (def_all rfl).trans (call_ret ?_)
  rw [within_is, decide_eq_true h.1, decide_eq_true h.2]; rfl
/-- no whole number -/
def odd : D → Bool
  | .int _ => false
  | .obj _ _ => false
  | _ => true
theorem within_odd {d : D} {lo hi : D} (h : odd d = true) : dDef 3 [] (dCall m_within) [d, lo, hi] = some (.ok (.bl false)) := by
  refine (def_all rfl).trans (call_ret ?_)
  cases d <;> first | rfl | cases h
/-- a pot -/
structure P where
  nm : Str
  gap : Int
  rest : Option Int
def P.d (p : P) : D := match p.rest with
  | none => .obj .pot [.str p.nm, .int p.gap]
  | some r => .obj .cactus [.str p.nm, .int p.gap, .int r]
theorem P.gap_is (p : P) : dFld "gap" p.d = some (.ok (.int p.gap)) := by
  unfold P.d
  cases p.rest <;> rfl
theorem P.tag (p : P) : isPot (tagOf p.d) = some true := by
  unfold P.d
  cases p.rest <;> rfl
theorem P.nm_is (p : P) : nmOf p.d = some p.nm := by
  unfold P.d
  cases p.rest <;> rfl
abbrev gdD (ps : List P) (cans week closed : Int) (ks : List (Str × Int)) : D := .obj .garden [.lst (ps.map P.d), .int cans, .int week, .int closed, .ord ks]
def prodG (a : Int) : List P → Int
  | [] => a
  | p :: ps => prodG (a * p.gap) ps
def Gap (ps : List P) : Prop := ∀ p ∈ ps, 1 ≤ p.gap ∧ p.gap ≤ 60
theorem mul_ev {i j : Int} (h : 0 ≤ j ∧ j ≤ 60) : dMul (.int i) (.int j) = some (.ok (.int (i * j))) := by
  show (if cMul i j = true then ok (D.int (i * j)) else none) = _
  rw [if_pos]
  · rfl
  · unfold cMul
    rw [Bool.or_eq_true]
    refine Or.inr ?_
    rw [Bool.and_eq_true]
    exact ⟨decide_eq_true (by omega), decide_eq_true (by omega)⟩
theorem size_go {g : D} : ∀ {ps : List P} {a : Int} {e2 : Ent}, Gap ps → ∃ e, forD (gN 2) (sAug 1 dMul (e1 (dFld "gap") (eVarB 2))) (ps.map P.d) [.fz g, .fz (.int a), e2] = some (.nx [.fz g, .fz (.int (prodG a ps)), e])
  | [], a, e2, h => ⟨e2, rfl⟩
  | p :: ps, a, e2, h => by
    obtain ⟨e, ih⟩ := size_go (g := g) (ps := ps) (a := a * p.gap) (e2 := .fz p.d) fun q hq => h q (List.mem_cons_of_mem _ hq)
    refine ⟨e, ?_⟩
    rw [List.map_cons]
    refine (for_cons (ρ1 := [.fz g, .fz (.int a), .fz p.d]) (ρ2 := [.fz g, .fz (.int (a * p.gap)), .fz p.d]) rfl ?_).trans ih
    have hp := h p List.mem_cons_self
    have hm := mul_ev (i := a) (j := p.gap) (by omega)
    have hg := p.gap_is
    show toS _ (bnd (some (.ok p.d)) (dFld "gap")) _ = _
    rw [bnd_ok, hg]
    show toS _ (dMul (.int a) (.int p.gap)) _ = _
    rw [hm]
    rfl
theorem size_is {ps : List P} {cans week closed : Int} {ks : List (Str × Int)} (h : Gap ps) : m_Garden_size [gdD ps cans week closed ks] = some (.ret (.int (prodG week ps))) := by
  obtain ⟨e, hl⟩ := size_go (g := gdD ps cans week closed ks) (ps := ps) (a := week) (e2 := .un) h
  exact run_ret ((seq_nx (ρ' := [.fz (gdD ps cans week closed ks), .fz (.int week), .un]) rfl).trans ((seq_nx (for_ev (ds := ps.map P.d) rfl hl)).trans (ret_ev rfl)))
theorem a_cons {f : Ro → EM D} {fs : Ro → EM (List D)} {ρ : Ro} {d : D} {ds : List D} (h : f ρ = some (.ok d)) (h2 : fs ρ = some (.ok ds)) : aCons f fs ρ = some (.ok (d :: ds)) := by unfold aCons; rw [h, bnd_ok, h2]; rfl
theorem e1_ev {h : D → EM D} {f : Ro → EM D} {ρ : Ro} {d : D} {r : EM D} (h1 : f ρ = some (.ok d)) (h2 : h d = r) : e1 h f ρ = r := by unfold e1; rw [h1]; exact h2
theorem ix_lst {xs : List D} {k : Nat} {d : D} (h : xs[k]? = some d) : dIx (.lst xs) (.int k) = some (.ok d) := by
  show (atI xs (k : Int)).map Except.ok = _
  rw [atI_nat, h]; rfl
theorem ix_tup {xs : List D} {k : Nat} {d : D} (h : xs[k]? = some d) : dIx (.tup xs) (.int k) = some (.ok d) := by
  show (atI xs (k : Int)).map Except.ok = _
  rw [atI_nat, h]; rfl
def okD (d : D) (g : Int) : Bool := match d with
  | .int i => decide (0 ≤ i) && decide (i ≤ g - 1)
  | _ => false
def valD : D → Int
  | .int i => i
  | _ => 0
def noObj : D → Bool
  | .obj _ _ => false
  | _ => true
theorem within_okD {d : D} {g : Int} (h : noObj d = true) : dDef 3 [] (dCall m_within) [d, .int 0, .int (g - 1)] = some (.ok (.bl (okD d g))) := by
  cases d with
  | int i => exact (def_all rfl).trans (call_ret (within_is i 0 (g - 1)))
  | obj c cs => cases h
  | _ => exact within_odd rfl
def numGo : Int → List D → List P → Option Int
  | a, [], [] => some a
  | a, d :: ds, p :: ps => if okD d p.gap = true then numGo (a * p.gap + valD d) ds ps else none
  | _, _, _ => none
abbrev bNum : Ro → Option Fl := sSeq (sIf (bNot (bT (eCall (dDef 3 [] (dCall m_within)) (aCons (eOp dIx (eOp dIx (eVarB 1) (eC (.int 1))) (eVarB 3)) (aCons (eC (.int 0)) (aCons (eOp dSub (e1 (dFld "gap") (eOp dIx (e1 (dFld "pots") (eVarB 0)) (eVarB 3))) (eC (.int 1))) aNil))))))
        (sRaise .noState)
        sNil)
      (sSet 2 (eOp dAddU (eOp dMulU (eVarB 2) (e1 (dFld "gap") (eOp dIx (e1 (dFld "pots") (eVarB 0)) (eVarB 3)))) (eOp dIx (eOp dIx (eVarB 1) (eC (.int 1))) (eVarB 3))))
theorem rng1_is (n : Nat) (h : n ≤ 100000) : dRng1 [.int (n : Int)] = some (.ok ((List.range' 0 n).map fun (i : Nat) => .int (i : Int))) := by
  unfold dRng1
  dsimp only
  rw [if_pos ⟨by omega, by omega⟩, Int.toNat_natCast, List.range_eq_range']
  rfl
section
variable {ps : List P} {cans week closed : Int} {ks : List (Str × Int)} {day : D} {ds : List D}
theorem drop_get {α : Type} {l r : List α} {s : Nat} {a : α} (h : l.drop s = a :: r) : l[s]? = some a ∧ l.drop (s + 1) = r := by
  have h1 : (l.drop s)[0]? = some a := by rw [h]; rfl
  rw [List.getElem?_drop] at h1
  refine ⟨by simpa using h1, ?_⟩
  have : (l.drop s).drop 1 = r := by rw [h]; rfl
  rw [List.drop_drop] at this
  exact this
theorem num_go (hg : Gap ps) (hds : ∀ d ∈ ds, noObj d = true) : ∀ (ps1 : List P) (ds1 : List D) (s : Nat) (a : Int) (e : Ent), ps.drop s = ps1 → ds.drop s = ds1 → ds1.length = ps1.length →
    (∃ r e', numGo a ds1 ps1 = some r ∧ forD (gN 3) bNum ((List.range' s ps1.length).map fun (i : Nat) => .int (i : Int)) [.fz (gdD ps cans week closed ks), .fz (.tup [day, .tup ds]), .fz (.int a), e] = some (.nx [.fz (gdD ps cans week closed ks), .fz (.tup [day, .tup ds]), .fz (.int r), e'])) ∨
    ∃ ρ', numGo a ds1 ps1 = none ∧ forD (gN 3) bNum ((List.range' s ps1.length).map fun (i : Nat) => .int (i : Int)) [.fz (gdD ps cans week closed ks), .fz (.tup [day, .tup ds]), .fz (.int a), e] = some (.ex .noState ρ')
  | [], ds1, s, a, e, h1, h2, hl => by
    have : ds1 = [] := by cases ds1 with | nil => rfl | cons _ _ => cases hl
    subst this
    exact .inl ⟨a, e, rfl, rfl⟩
  | p :: ps1, [], s, a, e, h1, h2, hl => by cases hl
  | p :: ps1, d :: ds1, s, a, e, h1, h2, hl => by
    obtain ⟨g1, g2⟩ := drop_get h1
    obtain ⟨d1, d2⟩ := drop_get h2
    have hp := hg p (List.mem_of_getElem? g1)
    have hd := hds d (List.mem_of_getElem? d1)
    have gp : (ps.map P.d)[s]? = some p.d := by rw [List.getElem?_map, g1]; rfl
    let ρ1 : Ro := [.fz (gdD ps cans week closed ks), .fz (.tup [day, .tup ds]), .fz (.int a), .fz (.int (s : Nat))]
    have eD : eOp dIx (eOp dIx (eVarB 1) (eC (.int 1))) (eVarB 3) ρ1 = some (.ok d) := op_ev (d := .tup ds) (e := .int (s : Nat)) rfl rfl (ix_tup d1)
    have eG : e1 (dFld "gap") (eOp dIx (e1 (dFld "pots") (eVarB 0)) (eVarB 3)) ρ1 = some (.ok (.int p.gap)) := e1_ev (d := p.d) (op_ev (d := .lst (ps.map P.d)) (e := .int (s : Nat)) rfl rfl (ix_lst gp)) p.gap_is
    have eW : eCall (dDef 3 [] (dCall m_within)) (aCons (eOp dIx (eOp dIx (eVarB 1) (eC (.int 1))) (eVarB 3)) (aCons (eC (.int 0)) (aCons (eOp dSub (e1 (dFld "gap") (eOp dIx (e1 (dFld "pots") (eVarB 0)) (eVarB 3))) (eC (.int 1))) aNil))) ρ1 = some (.ok (.bl (okD d p.gap))) :=
      call_ev (a_cons eD (a_cons rfl (a_cons (op_ev (d := .int p.gap) (e := .int 1) eG rfl rfl) rfl))) (within_okD hd)
    have hrange : (List.range' s (p :: ps1).length).map (fun (i : Nat) => D.int (i : Int)) = .int (s : Nat) :: (List.range' (s + 1) ps1.length).map fun (i : Nat) => .int (i : Int) := by
      rw [List.length_cons, List.range'_succ, List.map_cons]
    rw [hrange]
    cases ok : okD d p.gap with
    | true =>
      obtain ⟨i, rfl⟩ : ∃ i, d = .int i := by
        cases d <;> first | exact ⟨_, rfl⟩ | cases ok
      have hmul : dMulU (.int a) (.int p.gap) = some (.ok (.int (a * p.gap))) := mul_ev (by omega)
      have step : bNum ρ1 = some (.nx [.fz (gdD ps cans week closed ks), .fz (.tup [day, .tup ds]), .fz (.int (a * p.gap + i)), .fz (.int (s : Nat))]) := by
        refine (seq_nx (if_f (not_tt _ _ true (bT_ev (eW.trans (by rw [ok])))) rfl)).trans (set_ev (i := 2) (d := .int (a * p.gap + i)) (op_ev (d := .int (a * p.gap)) (e := .int i) (op_ev (d := .int a) (e := .int p.gap) rfl eG hmul) eD rfl))
      have hn : numGo a (.int i :: ds1) (p :: ps1) = numGo (a * p.gap + i) ds1 ps1 := by
        show (if okD (.int i) p.gap = true then numGo (a * p.gap + valD (.int i)) ds1 ps1 else none) = _
        rw [ok, if_pos rfl]; rfl
      rw [hn, for_cons (ρ1 := ρ1) rfl step]
      exact num_go hg hds ps1 ds1 (s + 1) (a * p.gap + i) (.fz (.int (s : Nat))) g2 d2 (by simpa using hl)
    | false =>
      refine .inr ⟨ρ1, ?_, for_ex (ρ1 := ρ1) rfl (seq_ex (if_t (not_tt _ _ false (bT_ev (eW.trans (by rw [ok])))) rfl))⟩
      show (if okD d p.gap = true then _ else none) = none
      rw [ok]; rfl
theorem num_is (hg : Gap ps) (hds : ∀ d ∈ ds, noObj d = true) (hl : ds.length = ps.length) {dy : Int} (h1 : 0 ≤ dy) (h2 : dy < week) (hps : ps.length ≤ 8) :
    m_Garden_number [gdD ps cans week closed ks, .tup [.int dy, .tup ds]] = (match numGo dy ds ps with | some r => some (.ret (.int r)) | none => some (.exc .noState)) := by
  let ρ0 : Ro := [.fz (gdD ps cans week closed ks), .fz (.tup [.int dy, .tup ds]), .un, .un]
  have c1 : bOr (bNot (bT (e1 (dIs tab_tuple) (eVarB 1)))) (bOr (bT (eOp dNe (eCall dLen (aCons (eVarB 1) aNil)) (eC (.int 2)))) (bNot (bT (eCall (dDef 3 [] (dCall m_within)) (aCons (eOp dIx (eVarB 1) (eC (.int 0))) (aCons (eC (.int 0)) (aCons (eOp dSub (e1 (dFld "week") (eVarB 0)) (eC (.int 1))) aNil))))))) ρ0 = some (.ok false) :=
    or_f (by rfl) (or_f (by rfl) (not_tt _ _ true (bT_ev (call_ev (ds := [.int dy, .int 0, .int (week - 1)]) rfl (within_yes (by omega))))))
  have c2 : bOr (bNot (bT (e1 (dIs tab_tuple) (eOp dIx (eVarB 1) (eC (.int 1)))))) (bT (eOp dNe (eCall dLen (aCons (eOp dIx (eVarB 1) (eC (.int 1))) aNil)) (eCall dLen (aCons (e1 (dFld "pots") (eVarB 0)) aNil)))) ρ0 = some (.ok false) := by
    refine or_f (by rfl) (bT_ev (op_ev (d := .int ds.length) (e := .int (ps.map P.d).length) rfl rfl ?_))
    rw [List.length_map, hl]
    show some (Except.ok (D.bl (!decide ((ps.length : Int) = ps.length)))) = _
    rw [decide_eq_true rfl]; rfl
  have rng : iRg dRng1 (aCons (eCall dLen (aCons (e1 (dFld "pots") (eVarB 0)) aNil)) aNil) [.fz (gdD ps cans week closed ks), .fz (.tup [.int dy, .tup ds]), .fz (.int dy), .un] = some (.ok ((List.range' 0 ps.length).map fun (i : Nat) => .int (i : Int))) := by
    unfold iRg
    rw [show aCons (eCall dLen (aCons (e1 (dFld "pots") (eVarB 0)) aNil)) aNil [.fz (gdD ps cans week closed ks), .fz (.tup [.int dy, .tup ds]), .fz (.int dy), .un] = some (.ok [.int (ps.map P.d).length]) from rfl, bnd_ok, List.length_map]
    exact rng1_is _ (by omega)
  rcases num_go (cans := cans) (week := week) (closed := closed) (ks := ks) (day := .int dy) hg hds ps ds 0 dy .un rfl rfl hl with ⟨r, e', hr, hf⟩ | ⟨ρ', hr, hf⟩
  · rw [hr]
    exact run_ret ((seq_nx (ρ' := ρ0) (if_f c1 rfl)).trans ((seq_nx (ρ' := ρ0) (if_f c2 rfl)).trans ((seq_nx (ρ' := [.fz (gdD ps cans week closed ks), .fz (.tup [.int dy, .tup ds]), .fz (.int dy), .un]) rfl).trans ((seq_nx (for_ev rng hf)).trans (ret_ev rfl)))))
  · rw [hr]
    exact run_exc ((seq_nx (ρ' := ρ0) (if_f c1 rfl)).trans ((seq_nx (ρ' := ρ0) (if_f c2 rfl)).trans ((seq_nx (ρ' := [.fz (gdD ps cans week closed ks), .fz (.tup [.int dy, .tup ds]), .fz (.int dy), .un]) rfl).trans (seq_ex (for_ev rng hf)))))
end
theorem meth_ev {na : Nat} {tab : Cl → Option (List D → Option Out)} {dc : (List D → Option Out) → List D → EM D} {g : Ro → EM D} {fs : Ro → EM (List D)} {ρ : Ro} {c : Cl} {cs ds : List D} {m : List D → Option Out} {r : EM D} (h1 : g ρ = some (.ok (.obj c cs))) (h2 : tab c = some m) (h3 : fs ρ = some (.ok ds)) (hl : (D.obj c cs :: ds).length = na) (h4 : dc m (.obj c cs :: ds) = r) : eMeth na tab dc g fs ρ = r := by
  unfold eMeth
  rw [h1, bnd_ok]
  dsimp only
  rw [h2]
  dsimp only
  rw [h3, bnd_ok, def_all hl]
  exact h4
section
variable {ps : List P} {cans week closed : Int} {ks : List (Str × Int)} {day : D} {ds : List D}
/-! number refuses -/
theorem num_len (hl : ds.length ≠ ps.length) {dy : Int} (h1 : 0 ≤ dy) (h2 : dy < week) : m_Garden_number [gdD ps cans week closed ks, .tup [.int dy, .tup ds]] = some (.exc .noState) := by
  let ρ0 : Ro := [.fz (gdD ps cans week closed ks), .fz (.tup [.int dy, .tup ds]), .un, .un]
  refine run_exc (ρ := ρ0) ((seq_nx (ρ' := ρ0) (if_f (or_f (by rfl) (or_f (by rfl) (not_tt _ _ true (bT_ev (call_ev (ds := [.int dy, .int 0, .int (week - 1)]) rfl (within_yes (by omega))))))) rfl)).trans (seq_ex (if_t (or_f (by rfl) (bT_ev (op_ev (d := .int ds.length) (e := .int (ps.map P.d).length) rfl rfl ?_))) rfl)))
  rw [List.length_map]
  show some (Except.ok (D.bl (!decide ((ds.length : Int) = ps.length)))) = _
  rw [decide_eq_false (by omega)]; rfl
theorem num_day {dy : Int} {x : D} (h : dy < 0 ∨ week ≤ dy) : m_Garden_number [gdD ps cans week closed ks, .tup [.int dy, x]] = some (.exc .noState) := by
  let ρ0 : Ro := [.fz (gdD ps cans week closed ks), .fz (.tup [.int dy, x]), .un, .un]
  exact run_exc (ρ := ρ0) (seq_ex (if_t (or_f (by rfl) (or_f (by rfl) (not_tt _ _ false (bT_ev (call_ev (ds := [.int dy, .int 0, .int (week - 1)]) rfl (within_no (by omega))))))) rfl))
theorem num_dayO {dy x : D} (h : odd dy = true) : m_Garden_number [gdD ps cans week closed ks, .tup [dy, x]] = some (.exc .noState) := by
  let ρ0 : Ro := [.fz (gdD ps cans week closed ks), .fz (.tup [dy, x]), .un, .un]
  exact run_exc (ρ := ρ0) (seq_ex (if_t (or_f (by rfl) (or_f (by rfl) (not_tt _ _ false (bT_ev (call_ev (ds := [dy, .int 0, .int (week - 1)]) rfl (within_odd h)))))) rfl))
theorem num_lst {xs : List D} : m_Garden_number [gdD ps cans week closed ks, .lst xs] = some (.exc .noState) := by
  let ρ0 : Ro := [.fz (gdD ps cans week closed ks), .fz (.lst xs), .un, .un]
  exact run_exc (ρ := ρ0) (seq_ex (if_t (or_t (by rfl)) rfl))
theorem num_lst2 {xs : List D} {dy : Int} (h1 : 0 ≤ dy) (h2 : dy < week) : m_Garden_number [gdD ps cans week closed ks, .tup [.int dy, .lst xs]] = some (.exc .noState) := by
  let ρ0 : Ro := [.fz (gdD ps cans week closed ks), .fz (.tup [.int dy, .lst xs]), .un, .un]
  exact run_exc (ρ := ρ0) ((seq_nx (ρ' := ρ0) (if_f (or_f (by rfl) (or_f (by rfl) (not_tt _ _ true (bT_ev (call_ev (ds := [.int dy, .int 0, .int (week - 1)]) rfl (within_yes (by omega))))))) rfl)).trans (seq_ex (if_t (or_t (by rfl)) rfl)))
/-! state -/
def stGo : Int → List P → List D → Int × List D
  | m, [], acc => (m, acc)
  | m, p :: ps, acc => stGo (m / p.gap) ps (acc ++ [.int (m % p.gap)])
abbrev bSt : Ro → Option Fl := sSeq (sUnp (gT (gsC (gN 1) (gsC (gN 4) gs0)) 2) (eCall dDivmod (aCons (eVarB 1) (aCons (e1 (dFld "gap") (eVarB 3)) aNil))))
      (gdO 2 (sApp 2 (eVar 4)))
theorem st_go {g : D} : ∀ (qs : List P) (m : Int) (acc : List D) (e3 e4 : Ent), Gap qs → acc.length + qs.length ≤ 1000 → ∃ e3' e4', forD (gN 3) bSt (qs.map P.d) [.fz g, .fz (.int m), .ow acc, e3, e4] = some (.nx [.fz g, .fz (.int (stGo m qs acc).1), .ow (stGo m qs acc).2, e3', e4'])
  | [], m, acc, e3, e4, _, _ => ⟨e3, e4, rfl⟩
  | p :: qs, m, acc, e3, e4, hg, hl => by
    have hp := hg p List.mem_cons_self
    obtain ⟨e3', e4', ih⟩ := st_go (g := g) qs (m / p.gap) (acc ++ [.int (m % p.gap)]) (.fz p.d) (.fz (.int (m % p.gap))) (fun q hq => hg q (List.mem_cons_of_mem _ hq)) (by simp only [List.length_append, List.length_cons, List.length_nil] at hl ⊢; omega)
    refine ⟨e3', e4', ?_⟩
    rw [List.map_cons]
    refine (for_cons (ρ1 := [.fz g, .fz (.int m), .ow acc, .fz p.d, e4]) (ρ2 := [.fz g, .fz (.int (m / p.gap)), .ow (acc ++ [.int (m % p.gap)]), .fz p.d, .fz (.int (m % p.gap))]) rfl ?_).trans ih
    have hdm : eCall dDivmod (aCons (eVarB 1) (aCons (e1 (dFld "gap") (eVarB 3)) aNil)) [.fz g, .fz (.int m), .ow acc, .fz p.d, e4] = some (.ok (.tup [.int (m / p.gap), .int (m % p.gap)])) := by
      refine call_ev (ds := [.int m, .int p.gap]) (a_cons rfl (a_cons (e1_ev (d := p.d) rfl p.gap_is) rfl)) ?_
      show (if cDiv m p.gap = true then ok (D.tup [.int (m / p.gap), .int (m % p.gap)]) else none) = _
      rw [if_pos]
      · rfl
      · unfold cDiv
        rw [decide_eq_true (by omega), decide_eq_true (by omega)]; rfl
    refine (seq_nx (ρ' := [.fz g, .fz (.int (m / p.gap)), .ow acc, .fz p.d, .fz (.int (m % p.gap))]) ?_).trans ?_
    · unfold sUnp
      rw [hdm, toS_ok]
      rfl
    · show (if acc.length < sizeLine then some (Fl.nx _) else none) = _
      rw [if_pos (by have := sizeLine_eq; omega)]
      rfl
theorem size_ev {ρ : Ro} (hg : Gap ps) (h : ρ[0]? = some (.fz (gdD ps cans week closed ks))) : eMeth 1 tb_size dCall (eVar 0) aNil ρ = some (.ok (.int (prodG week ps))) :=
  meth_ev (m := m_Garden_size) (ds := []) (by unfold eVar; rw [h]; rfl) rfl rfl rfl (call_ret (size_is hg))
end
theorem lc_ev {vs : List Nat} {t : Tg} {fi : Ro → EM (List D)} {p : Ro → EM Bool} {f : Ro → EM D} {ρ : Ro} {ds ys : List D} (h1 : fi ρ = some (.ok ds)) (h2 : lcD t p f (wipeE ρ vs) ds = some ys) (hl : ys.length ≤ 100000) : eLc vs t fi p f ρ = some (.ok (.lst ys)) := by
  unfold eLc
  rw [h1, bnd_ok, h2]
  dsimp only
  rw [if_pos (by have := sizeLine_eq; omega)]
  rfl
theorem lc_map {t : Tg} {p : Ro → EM Bool} {f : Ro → EM D} {ρ : Ro} {F : D → D} : ∀ {ds : List D}, (∀ d ∈ ds, ∃ ρ1, t d ρ = some ρ1 ∧ p ρ1 = some (.ok true) ∧ f ρ1 = some (.ok (F d))) → lcD t p f ρ ds = some (ds.map F)
  | [], _ => rfl
  | d :: ds, h => by
    obtain ⟨ρ1, h1, h2, h3⟩ := h d List.mem_cons_self
    have ih := lc_map (t := t) (p := p) (f := f) (ρ := ρ) (F := F) (ds := ds) fun d hd => h d (List.mem_cons_of_mem _ hd)
    unfold lcD
    rw [h1]; dsimp only; rw [h2]; dsimp only; rw [h3]; dsimp only; rw [ih]; rfl
theorem init_ok {names : List Str} {n : Nat} {body : Ro → Fs → Option IFl} {ds : List D} {ρ : Ro} {fs : Fs} {zs : List D} (h : body (startI n ds) [] = some (.nx ρ fs)) (hn : fs.map (·.1) = names) (hz : fs.map (·.2) = zs) : runI names n body ds = some (.ok zs) := by
  unfold runI
  rw [h]
  dsimp only
  rw [if_pos hn, hz]
  rfl
theorem sto_ev {f : Str} {fe : Ro → EM D} {g2 : Ro → Fs → Option IFl} {ρ : Ro} {fs : Fs} {d : D} {L : List Str} {r : Option IFl} (h : fe ρ = some (.ok d)) (ht : isT0 ρ[0]? = true) (hL : fs.map (·.1) = L) (hm : f ∉ L) (hl : L.length < 1000) (h2 : g2 ρ (fs ++ [(f, d)]) = r) : iSeq (iSto f fe) g2 ρ fs = r := by
  unfold iSeq iSto
  rw [h]
  dsimp only
  rw [if_pos ⟨ht, by rw [hL]; exact hm, by rw [← hL, List.length_map] at hl; exact hl⟩]
  exact h2
theorem post_ev {c : Cl} {g : Ro → Option Fl} {ρ ρ' : Ro} {fs : Fs} (ht : isT0 ρ[0]? = true) (hn : fs.map (·.1) = c.names) (h : g (ρ.set 0 (.fz (.obj c (fs.map (·.2))))) = some (.nx ρ')) : iPost c g ρ fs = some (.nx ρ' fs) := by
  unfold iPost
  rw [if_pos ⟨ht, hn⟩, h]
theorem names_ev {i ip : Nat} {fi : Ro → EM (List D)} {g2 : Ro → Fs → Option IFl} {ρ : Ro} {ds : List D} {ks : List (Str × Int)} {r : Option IFl} (h : tk0 ρ = true) (h1 : ip ≠ i) (h3 : isUn ρ[ip]? = true) (h4 : i < ρ.length) (h5 : fi (ρ.set i (.tk 1)) = some (.ok ds)) (h6 : ds.length < 100000) (h7 : namesGo ds [] = some (some ks)) (h8 : g2 (ρ.set i (.fz (.ord ks))) [] = r) : iNames i ip fi g2 ρ [] = r := by
  unfold iNames
  rw [if_pos ⟨h, rfl, h1, h3, h4⟩, h5]
  dsimp only
  rw [if_pos h6, h7]
  exact h8
theorem bls_true : ∀ (ps : List P), blsOf (ps.map fun _ => D.bl true) = some (ps.map fun _ => true)
  | [] => rfl
  | p :: ps => by rw [List.map_cons, List.map_cons]; unfold blsOf; rw [bls_true ps]; try rfl
section
variable {ps : List P} {cans week closed : Int} {ks : List (Str × Int)}
theorem garden_ok (h1 : 1 ≤ ps.length) (h2 : ps.length ≤ 8) (hc : 0 ≤ cans ∧ cans ≤ 8) (hw : 1 ≤ week ∧ week ≤ 14) (h0 : 0 ≤ closed) (hz : closed / 2 ^ week.toNat = 0) (hn : namesGo (ps.map P.d) [] = some (some ks)) (hg : Gap ps) (hs : prodG week ps ≤ 20000) :
    mi_Garden [.lst (ps.map P.d), .int cans, .int week, .int closed] = some (.ok [.lst (ps.map P.d), .int cans, .int week, .int closed, .ord ks]) := by
  let ρ : Ro := [.tk 0, .fz (.lst (ps.map P.d)), .fz (.int cans), .fz (.int week), .fz (.int closed), .un, .un]
  have hall : eCall dAll (aCons (eLc [6] (gN 6) (iOf (eVar 1)) bYes (e1 (dIs isPot) (eVarB 6))) aNil) ρ = some (.ok (.bl true)) := by
    refine call_ev (ds := [.lst (ps.map fun _ => .bl true)]) (a_cons (lc_ev (ds := ps.map P.d) rfl ?_ ?_) rfl) ?_
    · rw [lc_map (F := fun _ => .bl true)]
      · rw [List.map_map]; rfl
      · intro d hd
        obtain ⟨p, _, rfl⟩ := List.mem_map.mp hd
        refine ⟨_, rfl, rfl, ?_⟩
        show bnd (some (.ok p.d)) (dIs isPot) = _
        rw [bnd_ok]
        unfold dIs
        rw [p.tag]; rfl
    · rw [List.length_map]; omega
    · show (blsOf (ps.map fun _ => D.bl true)).map (fun ns => Except.ok (D.bl (ns.all id))) = _
      rw [bls_true]
      show some (Except.ok (D.bl ((ps.map fun _ => true).all id))) = _
      rw [show ((ps.map fun _ => true).all id) = true by simp]
  unfold mi_Garden
  refine init_ok (ρ := ρ.set 5 (.fz (.ord ks)) |>.set 0 (.fz (gdD ps cans week closed ks))) (fs := [("pots", .lst (ps.map P.d)), ("cans", .int cans), ("week", .int week), ("closed", .int closed), ("order", .ord ks)]) ?_ rfl rfl
  refine iS_nx (ρ' := ρ) (if_f (or_f (by rfl) (not_tt _ _ true (bT_ev hall))) rfl) ?_
  refine iS_nx (ρ' := ρ) (if_f (or_f (not_tt _ _ true (bT_ev ?_)) (or_f (not_tt _ _ true (bT_ev (call_ev (ds := [.int cans, .int 0, .int 8]) rfl (within_yes hc)))) (not_tt _ _ true (bT_ev (call_ev (ds := [.int week, .int 1, .int 14]) rfl (within_yes hw)))))) rfl) ?_
  · show bnd (some (Except.ok (D.int 1))) _ = _
    rw [bnd_ok]
    show bnd (dLen [.lst (ps.map P.d)]) _ = _
    rw [show dLen [.lst (ps.map P.d)] = some (.ok (.int (ps.map P.d).length)) from rfl, bnd_ok, List.length_map]
    show bnd (some (.ok (D.bl (decide ((1 : Int) ≤ ps.length))))) _ = _
    rw [bnd_ok, decide_eq_true (by omega)]
    show some (Except.ok (D.bl (decide ((ps.length : Int) ≤ 8)))) = _
    rw [decide_eq_true (by omega)]
  refine iS_nx (ρ' := ρ) (if_f (or_f (by rfl) (or_f (bT_ev (op_ev (d := .int closed) (e := .int 0) rfl rfl ?_)) (bT_ev (op_ev (d := .int 0) (e := .int 0) (op_ev (d := .int closed) (e := .int week) rfl rfl ?_) rfl rfl)))) rfl) ?_
  · show some (Except.ok (D.bl (decide (closed < 0)))) = _
    rw [decide_eq_false (by omega)]
  · show (if cNn closed week = true then ok (D.int (closed / 2 ^ week.toNat)) else none) = _
    rw [if_pos (show cNn closed week = true from decide_eq_true (by omega)), hz]; rfl
  refine names_ev rfl (by decide) rfl (show 5 < 7 by decide) (ds := ps.map P.d) rfl (by rw [List.length_map]; omega) hn ?_
  refine sto_ev (d := .lst (ps.map P.d)) (L := []) rfl rfl rfl (by decide) (by decide) ?_
  refine sto_ev (d := .int cans) (L := ["pots"]) rfl rfl rfl (by decide) (by decide) ?_
  refine sto_ev (d := .int week) (L := ["pots", "cans"]) rfl rfl rfl (by decide) (by decide) ?_
  refine sto_ev (d := .int closed) (L := ["pots", "cans", "week"]) rfl rfl rfl (by decide) (by decide) ?_
  refine sto_ev (d := .ord ks) (L := ["pots", "cans", "week", "closed"]) rfl rfl rfl (by decide) (by decide) ?_
  refine post_ev rfl rfl (if_f (bT_ev (op_ev (d := .int (prodG week ps)) (e := .int 20000) (size_ev hg rfl) rfl ?_)) rfl)
  show some (Except.ok (D.bl (decide ((20000 : Int) < prodG week ps)))) = _
  rw [decide_eq_false (by omega)]
end
/-! digits -/
def dgP : Int → List P → Int × List Int
  | n, [] => (n, [])
  | n, p :: Q => ((dgP (n / p.gap) Q).1, (dgP (n / p.gap) Q).2 ++ [n % p.gap])
theorem stGo_is : ∀ (Q : List P) (n : Int) (acc : List D), stGo n Q acc = ((dgP n Q).1, acc ++ (dgP n Q).2.reverse.map D.int)
  | [], n, acc => by show (n, acc) = (n, acc ++ []); rw [List.append_nil]
  | p :: Q, n, acc => by
    show stGo (n / p.gap) Q (acc ++ [.int (n % p.gap)]) = ((dgP (n / p.gap) Q).1, acc ++ ((dgP (n / p.gap) Q).2 ++ [n % p.gap]).reverse.map D.int)
    rw [stGo_is Q]
    simp
theorem dgP_len : ∀ (Q : List P) (n : Int), (dgP n Q).2.length = Q.length
  | [], n => rfl
  | p :: Q, n => by
    show ((dgP (n / p.gap) Q).2 ++ [n % p.gap]).length = _
    rw [List.length_append, dgP_len Q]; rfl
def prodQ (w : Int) : List P → Int
  | [] => w
  | p :: Q => prodQ w Q * p.gap
theorem prodG_append : ∀ (ps : List P) (w : Int) (p : P), prodG w (ps ++ [p]) = prodG w ps * p.gap
  | [], w, p => rfl
  | a :: ps, w, p => by
    show prodG (w * a.gap) (ps ++ [p]) = prodG (w * a.gap) ps * p.gap
    rw [prodG_append ps]
theorem prodG_rev : ∀ (Q : List P) (w : Int), prodG w Q.reverse = prodQ w Q
  | [], w => rfl
  | p :: Q, w => by
    rw [List.reverse_cons, prodG_append, prodG_rev Q]; rfl
theorem dgP_day : ∀ (Q : List P) (n w : Int), Gap Q → 0 ≤ n → n < prodQ w Q → 0 ≤ (dgP n Q).1 ∧ (dgP n Q).1 < w
  | [], n, w, _, h0, h1 => ⟨h0, h1⟩
  | p :: Q, n, w, hg, h0, h1 => by
    have hp := hg p List.mem_cons_self
    refine dgP_day Q (n / p.gap) w (fun q hq => hg q (List.mem_cons_of_mem _ hq)) (Int.ediv_nonneg h0 (by omega)) ?_
    exact Int.ediv_lt_of_lt_mul (by omega) h1
theorem numGo_append : ∀ (ps : List P) (ds : List D) (a : Int) (d : D) (p : P), ds.length = ps.length → numGo a (ds ++ [d]) (ps ++ [p]) = (numGo a ds ps).bind fun b => if okD d p.gap = true then some (b * p.gap + valD d) else none
  | [], [], a, d, p, _ => by
    show (if okD d p.gap = true then numGo (a * p.gap + valD d) [] [] else none) = _
    rfl
  | [], e :: ds, a, d, p, h => by cases h
  | q :: ps, [], a, d, p, h => by cases h
  | q :: ps, e :: ds, a, d, p, h => by
    show (if okD e q.gap = true then numGo (a * q.gap + valD e) (ds ++ [d]) (ps ++ [p]) else none) = (if okD e q.gap = true then numGo (a * q.gap + valD e) ds ps else none).bind _
    by_cases c : okD e q.gap = true
    · rw [if_pos c, if_pos c]
      exact numGo_append ps ds _ d p (by simpa using h)
    · rw [if_neg c, if_neg c]; rfl
theorem num_dg : ∀ (Q : List P) (n : Int), Gap Q → 0 ≤ n → numGo (dgP n Q).1 ((dgP n Q).2.map D.int) Q.reverse = some n
  | [], n, _, _ => rfl
  | p :: Q, n, hg, h0 => by
    have hp := hg p List.mem_cons_self
    have h1 : 0 ≤ n / p.gap := Int.ediv_nonneg h0 (by omega)
    have ih := num_dg Q (n / p.gap) (fun q hq => hg q (List.mem_cons_of_mem _ hq)) h1
    show numGo (dgP (n / p.gap) Q).1 (((dgP (n / p.gap) Q).2 ++ [n % p.gap]).map D.int) (p :: Q).reverse = some n
    rw [List.map_append, List.reverse_cons, List.map_cons, List.map_nil, numGo_append _ _ _ _ _ (by rw [List.length_map, dgP_len, List.length_reverse]), ih]
    have e1 := Int.emod_nonneg n (show p.gap ≠ 0 by omega)
    have e2 := Int.emod_lt_of_pos n (show 0 < p.gap by omega)
    have ok : okD (.int (n % p.gap)) p.gap = true := by
      show (decide (0 ≤ n % p.gap) && decide (n % p.gap ≤ p.gap - 1)) = true
      rw [decide_eq_true e1, decide_eq_true (by omega)]; rfl
    show (if okD (.int (n % p.gap)) p.gap = true then some (n / p.gap * p.gap + n % p.gap) else none) = some n
    rw [if_pos ok]
    congr 1
    have := Int.mul_ediv_add_emod n p.gap
    rw [Int.mul_comm]; exact this
theorem numGo_none : ∀ (ps : List P) (ds : List D) (k : Nat) (a : Int) (d : D) (p : P), ds[k]? = some d → ps[k]? = some p → okD d p.gap = false → numGo a ds ps = none
  | [], ds, k, a, d, p, _, h, _ => by cases h
  | q :: ps, [], k, a, d, p, h, _, _ => by cases h
  | q :: ps, e :: ds, 0, a, d, p, h1, h2, h3 => by
    cases h1; cases h2
    show (if okD e q.gap = true then _ else none) = none
    rw [h3]; rfl
  | q :: ps, e :: ds, k + 1, a, d, p, h1, h2, h3 => by
    show (if okD e q.gap = true then numGo (a * q.gap + valD e) ds ps else none) = none
    split
    · exact numGo_none ps ds k _ d p (by simpa using h1) (by simpa using h2) h3
    · rfl
/-! equal data -/
theorem pyI : ∀ (is : List Int), pyL (is.map D.int) = is.map PyData.int
  | [] => rfl
  | i :: is => by show py (.int i) :: pyL (is.map D.int) = _; rw [pyI is]; rfl
theorem layI : ∀ (is : List Int), PyData.canLayAll0 (is.map PyData.int) = true
  | [] => by simp [PyData.canLayAll0]
  | i :: is => by simp [PyData.canLayAll0, PyData.canLay0, layI is]
theorem depI : ∀ (is : List Int), PyData.depthAll (is.map PyData.int) = 0
  | [] => by simp [PyData.depthAll]
  | i :: is => by simp [PyData.depthAll, PyData.depth, depI is]
theorem eqvI : ∀ (is : List Int), PyData.eqvAll (is.map PyData.int) (is.map PyData.int) = true
  | [] => by simp [PyData.eqvAll]
  | i :: is => by simp [PyData.eqvAll, PyData.eqv, eqvI is]
theorem fit_l (is : List Int) : fit (.lst (is.map D.int)) = true := by
  show SeqAt.shaped (.list (pyL (is.map D.int))) = true
  rw [pyI]
  unfold SeqAt.shaped
  simp [PyData.canLay0, PyData.depth, layI, depI]
theorem eq_l (is : List Int) : dEq (.lst (is.map D.int)) (.lst (is.map D.int)) = some (.ok (.bl true)) := by
  show (if fit (.lst (is.map D.int)) = true ∧ fit (.lst (is.map D.int)) = true then ok (D.bl (PyData.eqv (.list (pyL (is.map D.int))) (.list (pyL (is.map D.int))))) else none) = _
  rw [if_pos ⟨fit_l is, fit_l is⟩, pyI]
  simp [PyData.eqv, eqvI, ok]
/-! pots, refusals -/
theorem pot_ok {nm : Str} {g : Int} (hn : m_is_name [.str nm] = some (.ret (.bl true))) (h : 1 ≤ g ∧ g ≤ 60) : mi_Pot [.str nm, .int g] = some (.ok [.str nm, .int g]) := by
  unfold mi_Pot
  refine init_ok (ρ := startI 3 [.str nm, .int g]) (fs := [("name", .str nm), ("gap", .int g)]) ?_ rfl rfl
  refine iS_nx (ρ' := startI 3 [.str nm, .int g]) (if_f (or_f (not_tt _ _ true (bT_ev (call_ev (ds := [.str nm]) rfl ((def_all rfl).trans (call_ret hn))))) (not_tt _ _ true (bT_ev (call_ev (ds := [.int g, .int 1, .int 60]) rfl (within_yes h))))) rfl) ?_
  refine sto_ev (d := .str nm) (L := []) rfl rfl rfl (by decide) (by decide) ?_
  exact sto_ev (d := .int g) (L := ["name"]) rfl rfl rfl (by decide) (by decide) rfl
theorem cac_ok {nm : Str} {g r : Int} (hn : m_is_name [.str nm] = some (.ret (.bl true))) (h : 1 ≤ g ∧ g ≤ 60) (hr : 0 ≤ r ∧ r ≤ g - 1) : mi_Cactus [.str nm, .int g, .int r] = some (.ok [.str nm, .int g, .int r]) := by
  unfold mi_Cactus
  refine init_ok (ρ := startI 4 [.str nm, .int g, .int r]) (fs := [("name", .str nm), ("gap", .int g), ("rest", .int r)]) ?_ rfl rfl
  have e : iCal (Cl.names .pot) 2 mi_Pot (aCons (eVar 1) (aCons (eVar 2) aNil)) (startI 4 [.str nm, .int g, .int r]) [] = some (.nx (startI 4 [.str nm, .int g, .int r]) [("name", .str nm), ("gap", .int g)]) := by
    show (match mi_Pot [.str nm, .int g] with | some (.ok zs) => if zs.length = 2 then some (IFl.nx _ _) else none | some (.error e) => some (IFl.ex e) | none => none) = _
    rw [pot_ok hn h]; rfl
  show iSeq _ _ (startI 4 [.str nm, .int g, .int r]) [] = _
  unfold iSeq
  rw [e]
  dsimp only
  refine iS_nx (ρ' := startI 4 [.str nm, .int g, .int r]) (if_f (not_tt _ _ true (bT_ev (call_ev (ds := [.int r, .int 0, .int (g - 1)]) rfl (within_yes hr)))) rfl) ?_
  exact sto_ev (f := "rest") (ρ := startI 4 [.str nm, .int g, .int r]) (g2 := iNil) (fe := eVar 3) (fs := [("name", .str nm), ("gap", .int g)]) (d := .int r) (L := ["name", "gap"]) rfl rfl rfl (by decide) (by decide) rfl
theorem mulW {i j : Int} (h : -(2 ^ 64) < j ∧ j < 2 ^ 64) : dMulU (.int i) (.int j) = some (.ok (.int (i * j))) := by
  show (if cMul i j = true then ok (D.int (i * j)) else none) = _
  rw [if_pos]
  · rfl
  · unfold cMul
    rw [Bool.or_eq_true]
    refine Or.inr ?_
    rw [Bool.and_eq_true]
    exact ⟨decide_eq_true h.1, decide_eq_true h.2⟩
theorem mod_ev {i j : Int} (h : 0 < j) : dMod (.int i) (.int j) = some (.ok (.int (i % j))) := by
  show (if cPos i j = true then ok (D.int (i % j)) else none) = _
  rw [if_pos (show cPos i j = true from decide_eq_true h)]; rfl
theorem div_ev {i j : Int} (h : 0 < j ∧ j < 1073741824) : dDiv (.int i) (.int j) = some (.ok (.int (i / j))) := by
  show (if cDiv i j = true then ok (D.int (i / j)) else none) = _
  rw [if_pos (show cDiv i j = true by unfold cDiv; rw [decide_eq_true h.1, decide_eq_true h.2]; rfl)]; rfl
theorem draw_is (c k m : Int) (hm : 0 < m) : ∃ v, 0 ≤ v ∧ v < m ∧ dDef 3 [] (dCall m_law_draw) [.int c, .int k, .int m] = some (.ok (.int v)) := by
  have h8 : k % 8 = 0 ∨ k % 8 = 1 ∨ k % 8 = 2 ∨ k % 8 = 3 ∨ k % 8 = 4 ∨ k % 8 = 5 ∨ k % 8 = 6 ∨ k % 8 = 7 := by omega
  obtain ⟨pr, hpr, hix⟩ : ∃ pr, 0 < pr ∧ dIx (.tup [.int 1000003, .int 1000033, .int 1000037, .int 1000039, .int 1000081, .int 1000099, .int 1000117, .int 1000121]) (.int (k % 8)) = some (.ok (.int pr)) := by
    rcases h8 with h | h | h | h | h | h | h | h <;> rw [h] <;> exact ⟨_, by decide, rfl⟩
  let bl := c * 48271 + k * 69621 + c / 1000003 % 1000003 * 40692
  refine ⟨bl % pr % m, Int.emod_nonneg _ (by omega), Int.emod_lt_of_pos _ hm, (def_all rfl).trans (call_ret (run_ret ((seq_nx (ρ' := [.fz (.int c), .fz (.int k), .fz (.int m), .fz (.tup [.int 1000003, .int 1000033, .int 1000037, .int 1000039, .int 1000081, .int 1000099, .int 1000117, .int 1000121]), .un]) (by kernel_rfl)).trans ((seq_nx (ρ' := [.fz (.int c), .fz (.int k), .fz (.int m), .fz (.tup [.int 1000003, .int 1000033, .int 1000037, .int 1000039, .int 1000081, .int 1000099, .int 1000117, .int 1000121]), .fz (.int bl)]) ?_).trans (ret_ev (op_ev (d := .int (bl % pr)) (e := .int m) (op_ev (d := .int bl) (e := .int pr) rfl (op_ev (e := .int (k % 8)) rfl (op_ev (d := .int k) (e := .int 8) rfl rfl (mod_ev (by decide))) hix) (mod_ev hpr)) rfl (mod_ev hm)))))))⟩
  refine set_ev (i := 4) (op_ev (d := .int (c * 48271 + k * 69621)) (e := .int (c / 1000003 % 1000003 * 40692)) (op_ev (d := .int (c * 48271)) (e := .int (k * 69621)) (op_ev (d := .int c) (e := .int 48271) rfl rfl (mulW (by decide))) (op_ev (d := .int k) (e := .int 69621) rfl rfl (mulW (by decide))) rfl) (op_ev (d := .int (c / 1000003 % 1000003)) (e := .int 40692) (op_ev (d := .int (c / 1000003)) (e := .int 1000003) (op_ev (d := .int c) (e := .int 1000003) rfl rfl (div_ev (by decide))) rfl (mod_ev (by decide))) rfl (mulW (by decide))) rfl)
theorem rg_ev {h : List D → EM (List D)} {fs : Ro → EM (List D)} {ρ : Ro} {ds : List D} {r : EM (List D)} (h1 : fs ρ = some (.ok ds)) (h2 : h ds = r) : iRg h fs ρ = r := by unfold iRg; rw [h1]; exact h2
theorem tup_ev {fs : Ro → EM (List D)} {ρ : Ro} {ds : List D} {n : Nat} (h : fs ρ = some (.ok ds)) (hl : ds.length ≤ n) (hn : n ≤ 1000 := by decide) : eTup fs ρ = some (.ok (.tup ds)) := by
  unfold eTup
  rw [h, bnd_ok, if_pos (by have := sizeLine_eq; omega)]
  rfl
theorem lst_ev {fs : Ro → EM (List D)} {ρ : Ro} {ds : List D} {n : Nat} (h : fs ρ = some (.ok ds)) (hl : ds.length ≤ n) (hn : n ≤ 1000 := by decide) : eLst fs ρ = some (.ok (.lst ds)) := by
  unfold eLst
  rw [h, bnd_ok, if_pos (by have := sizeLine_eq; omega)]
  rfl
theorem iof_ev {f : Ro → EM D} {ρ : Ro} {xs : List D} (h : f ρ = some (.ok (.lst xs))) : iOf f ρ = some (.ok xs) := by unfold iOf; rw [h]; rfl
theorem nbref {f : Ro → EM D} {ρ : Ro} (h : f ρ = some (.ok (.bl true))) : bNot (bT f) ρ = some (.ok false) := not_tt _ _ true (bT_ev h)
end K06
namespace K06
open PySem PySem.Spec PyProof.Rows L2 Tw
/-! ### bits -/
abbrev Dn (k : Nat) : D := .int (k : Int)
theorem and_one (c : Nat) : dAnd (.int c) (.int 1) = some (.ok (.int ((c % 2 : Nat) : Int))) := by
  show some (Except.ok (D.int (Builtin.bitAnd (c : Int) 1))) = _
  have h := PyProof.Rows.bitAnd_pp (x := (c : Int)) (y := 1) (by omega) (by decide)
  rw [h]
  have : (c : Int).toNat &&& (1 : Int).toNat = c % 2 := by
    rw [Int.toNat_natCast]
    exact Nat.and_one_is_mod c
  rw [this]
theorem shr_nat (c k : Nat) : dShr (.int c) (.int k) = some (.ok (.int ((c / 2 ^ k : Nat) : Int))) := by
  show (if cNn (c : Int) (k : Int) = true then ok (D.int ((c : Int) / 2 ^ ((k : Int).toNat))) else none) = _
  rw [if_pos (show cNn (c : Int) (k : Int) = true from decide_eq_true (by omega)), Int.toNat_natCast]
  norm_cast
theorem eq_i (i j : Int) : dEq (.int i) (.int j) = some (.ok (.bl (decide (i = j)))) := rfl
theorem bit_ev {f g : Ro → EM D} {ρ : Ro} {c k : Nat} (hf : f ρ = some (.ok (Dn c))) (hg : g ρ = some (.ok (Dn k))) : bT (eOp dEq (eOp dAnd (eOp dShr f g) (eC (.int 1))) (eC (.int 1))) ρ = some (.ok (c.testBit k)) := by
  refine bT_ev (op_ev (d := .int ((c / 2 ^ k % 2 : Nat) : Int)) (e := .int 1) (op_ev (d := .int ((c / 2 ^ k : Nat) : Int)) (e := .int 1) (op_ev hf hg (shr_nat c k)) rfl (and_one _)) rfl ?_)
  rw [eq_i, Nat.testBit_eq_decide_div_mod_eq, show decide (((c / 2 ^ k % 2 : Nat) : Int) = 1) = decide (c / 2 ^ k % 2 = 1) from decide_eq_decide.mpr (by omega)]
theorem app_ev {i : Nat} {f : Ro → EM D} {ρ : Ro} {ds : List D} {d : D} (h0 : ρ[i]? = some (.ow ds)) (h : f ρ = some (.ok d)) (hl : ds.length < 1000000) : gdO i (sApp i f) ρ = some (.nx (ρ.set i (.ow (ds ++ [d])))) := by
  unfold gdO isOw
  rw [h0]
  dsimp only
  rw [if_pos rfl]
  unfold sApp
  rw [h, toS_ok, h0]
  dsimp only
  rw [if_pos (by have := sizeLine_eq; omega)]
/-- the places of the bits -/
def bitsF : Nat → Nat → Nat → List Nat
  | 0, _, _ => []
  | n + 1, c, p => (if c % 2 = 1 then [p] else []) ++ bitsF n (c / 2) (p + 1)
theorem bitsF_zero : ∀ (n p : Nat), bitsF n 0 p = []
  | 0, _ => rfl
  | n + 1, p => by
    show (if 0 % 2 = 1 then [p] else []) ++ bitsF n (0 / 2) (p + 1) = []
    rw [if_neg (by decide), Nat.zero_div, bitsF_zero n]; rfl
theorem bitsF_len : ∀ (n c p : Nat), (bitsF n c p).length ≤ n
  | 0, _, _ => Nat.le_refl _
  | n + 1, c, p => by
    show ((if c % 2 = 1 then [p] else []) ++ bitsF n (c / 2) (p + 1)).length ≤ n + 1
    have := bitsF_len n (c / 2) (p + 1)
    rw [List.length_append]
    split <;> simp <;> omega
theorem bitsF_nil : ∀ (n c p : Nat), c < 2 ^ n → bitsF n c p = [] → c = 0
  | 0, c, p, h, _ => by simpa using h
  | n + 1, c, p, h, e => by
    have e' : (if c % 2 = 1 then [p] else []) ++ bitsF n (c / 2) (p + 1) = [] := e
    obtain ⟨e1, e2⟩ := List.append_eq_nil_iff.mp e'
    have h2 := bitsF_nil n (c / 2) (p + 1) (by rw [Nat.pow_succ] at h; omega) e2
    by_cases z : c % 2 = 1
    · rw [if_pos z] at e1; cases e1
    · omega
theorem bitsF_test (c : Nat) : ∀ (m s : Nat), bitsF m (c / 2 ^ s) s = (List.range' s m).filter (c.testBit ·)
  | 0, s => rfl
  | m + 1, s => by
    show (if c / 2 ^ s % 2 = 1 then [s] else []) ++ bitsF m (c / 2 ^ s / 2) (s + 1) = _
    rw [Nat.div_div_eq_div_mul, ← Nat.pow_succ, bitsF_test c m (s + 1), List.range'_succ, List.filter_cons, Nat.testBit_eq_decide_div_mod_eq]
    by_cases z : c / 2 ^ s % 2 = 1
    · rw [if_pos z, if_pos (decide_eq_true z)]; rfl
    · rw [if_neg z, if_neg (by rw [decide_eq_false z]; decide)]; rfl
/-- the places of a choice -/
def wet (n c : Nat) : List Nat := (List.range' 0 n).filter (c.testBit ·)
theorem wet_bits (n c : Nat) : bitsF n c 0 = wet n c := by
  have := bitsF_test c n 0
  rwa [Nat.pow_zero, Nat.div_one] at this
theorem wet_len (n c : Nat) : (wet n c).length ≤ n := by rw [← wet_bits]; exact bitsF_len n c 0
theorem wet_nil {n c : Nat} (h : c < 2 ^ n) : wet n c = [] ↔ c = 0 := by
  constructor
  · intro e; exact bitsF_nil n c 0 h (by rw [wet_bits]; exact e)
  · rintro rfl; rw [← wet_bits, bitsF_zero]
theorem wet_mem {n c k : Nat} : k ∈ wet n c ↔ k < n ∧ c.testBit k = true := by
  unfold wet
  rw [List.mem_filter, List.mem_range'_1]
  simp
abbrev bBits : Ro → Option Fl := sSeq (sIf (bT (eOp dEq (eOp dAnd (eVarB 0) (eC (.int 1))) (eC (.int 1))))
        (gdO 1 (sApp 1 (eVar 2)))
        sNil)
      (sSeq (sSet 0 (eOp dShr (eVarB 0) (eC (.int 1))))
      (sAug 2 (dI (fun _ _ => true) fun i j => i + j) (eC (.int 1))))
theorem bits_go : ∀ (n c p : Nat) (acc : List D), c < 2 ^ n → acc.length + n ≤ 1000 → ∃ p' : Nat, whileN (bT (eOp dGt (eVarB 0) (eC (.int 0)))) bBits (n + 1) [.fz (Dn c), .ow acc, .fz (Dn p)] = some (.nx [.fz (Dn 0), .ow (acc ++ (bitsF n c p).map Dn), .fz (Dn p')])
  | n, 0, p, acc, _, _ => ⟨p, by rw [bitsF_zero, List.map_nil, List.append_nil]; rfl⟩
  | 0, c + 1, p, acc, h, _ => by rw [Nat.pow_zero] at h; omega
  | n + 1, c + 1, p, acc, h, hl => by
    have hb : ∃ acc', acc' = acc ++ (if (c + 1) % 2 = 1 then [p] else []).map Dn ∧ acc'.length + n ≤ 1000 ∧ bBits [.fz (Dn (c + 1)), .ow acc, .fz (Dn p)] = some (.nx [.fz (Dn ((c + 1) / 2)), .ow acc', .fz (Dn (p + 1))]) := by
      have tail : ∀ acc', sSeq (sSet 0 (eOp dShr (eVarB 0) (eC (.int 1)))) (sAug 2 (dI (fun _ _ => true) fun i j => i + j) (eC (.int 1))) [.fz (Dn (c + 1)), .ow acc', .fz (Dn p)] = some (.nx [.fz (Dn ((c + 1) / 2)), .ow acc', .fz (Dn (p + 1))]) := fun acc' => by
        refine (seq_nx (ρ' := [.fz (Dn ((c + 1) / 2)), .ow acc', .fz (Dn p)]) (set_ev (i := 0) (op_ev (d := Dn (c + 1)) (e := .int 1) rfl rfl ?_))).trans rfl
        have := shr_nat (c + 1) 1
        rw [Nat.pow_one] at this
        exact this
      have hc : bT (eOp dEq (eOp dAnd (eVarB 0) (eC (.int 1))) (eC (.int 1))) [.fz (Dn (c + 1)), .ow acc, .fz (Dn p)] = some (.ok (decide ((c + 1) % 2 = 1))) := by
        refine bT_ev (op_ev (d := .int (((c + 1) % 2 : Nat) : Int)) (e := .int 1) (op_ev (d := Dn (c + 1)) (e := .int 1) rfl rfl (and_one _)) rfl ?_)
        rw [eq_i, show decide ((((c + 1) % 2 : Nat) : Int) = 1) = decide ((c + 1) % 2 = 1) from decide_eq_decide.mpr (by omega)]
      by_cases z : (c + 1) % 2 = 1
      · rw [decide_eq_true z] at hc
        refine ⟨_, rfl, ?_, ?_⟩
        · rw [if_pos z]; simp; omega
        · rw [if_pos z]
          exact (seq_nx (if_t hc (app_ev (i := 1) (ds := acc) (d := Dn p) rfl rfl (by omega)))).trans (tail _)
      · rw [decide_eq_false z] at hc
        refine ⟨_, rfl, ?_, ?_⟩
        · rw [if_neg z]; simp; omega
        · rw [if_neg z, List.map_nil, List.append_nil]
          exact (seq_nx (if_f hc rfl)).trans (tail _)
    obtain ⟨acc', e, hl', hb⟩ := hb
    obtain ⟨p', ih⟩ := bits_go n ((c + 1) / 2) (p + 1) acc' (by rw [Nat.pow_succ] at h; omega) hl'
    refine ⟨p', ?_⟩
    have e2 : acc ++ (bitsF (n + 1) (c + 1) p).map Dn = acc' ++ (bitsF n ((c + 1) / 2) (p + 1)).map Dn := by
      rw [e, List.append_assoc, ← List.map_append]; rfl
    rw [e2, ← ih]
    have hgt : bT (eOp dGt (eVarB 0) (eC (.int 0))) [.fz (Dn (c + 1)), .ow acc, .fz (Dn p)] = some (.ok true) := by
      refine bT_ev (op_ev (d := Dn (c + 1)) (e := .int 0) rfl rfl ?_)
      show some (Except.ok (D.bl (decide ((0 : Int) < ((c + 1 : Nat) : Int))))) = _
      rw [decide_eq_true (by omega)]
    show toS _ (bT (eOp dGt (eVarB 0) (eC (.int 0))) _) _ = _
    rw [hgt, toS_ok, if_pos rfl, hb]
theorem bits_is {n c : Nat} (h : c < 2 ^ n) (hn : n ≤ 900) : m_bits_of [Dn c] = some (.reto ((wet n c).map Dn)) := by
  obtain ⟨p', hw⟩ := bits_go n c 0 [] h (by simp; omega)
  rw [wet_bits, List.nil_append] at hw
  have : (sSeq (sSetO 1 (eLst aNil)) (sSeq (sSet 2 (eC (.int 0))) (sSeq (sWhile (bT (eOp dGt (eVarB 0) (eC (.int 0)))) bBits) (sRetV 1)))) (startE 3 [Dn c]) = some (.rto ((wet n c).map Dn)) :=
    (seq_nx (ρ' := [.fz (Dn c), .ow [], .un]) rfl).trans ((seq_nx (ρ' := [.fz (Dn c), .ow [], .fz (Dn 0)]) rfl).trans ((seq_nx (sWhile_is hw)).trans rfl))
  exact (congrArg outOf this).trans rfl
end K06
namespace K06
open PySem PySem.Spec PyProof.Rows L2 Tw
/-! ### what may be done, what comes of it -/
def mayP (p : P) (i : Int) : Bool := match p.rest with
  | none => true
  | some r => decide (r ≤ i)
theorem may_ev {f g : Ro → EM D} {ρ : Ro} {p : P} {i : Int} (hf : f ρ = some (.ok p.d)) (hg : g ρ = some (.ok (.int i))) : eMeth 2 tb_may dCall f (aCons g aNil) ρ = some (.ok (.bl (mayP p i))) := by
  obtain ⟨nm, gap, rest⟩ := p
  cases rest with
  | none => exact meth_ev (m := m_Pot_may) (c := .pot) (cs := [.str nm, .int gap]) (ds := [.int i]) hf rfl (a_cons hg rfl) rfl rfl
  | some r => exact meth_ev (m := m_Cactus_may) (c := .cactus) (cs := [.str nm, .int gap, .int r]) (ds := [.int i]) hf rfl (a_cons hg rfl) rfl rfl
/-- may the pot at a place be watered -/
def mayK (ps : List P) (is : List Int) (k : Nat) : Bool := match ps[k]?, is[k]? with
  | some p, some i => mayP p i
  | _, _ => false
section
variable {ps : List P} {cans week : Int} {cl dy : Nat} {ks : List (Str × Int)} {is : List Int}
abbrev stD (day : D) (is : List Int) : D := .tup [day, .tup (is.map D.int)]
abbrev roA (g : D) (dy : Nat) (is : List Int) (c : Nat) (e5 e6 : Ent) : Ro := [.fz g, .fz (stD (Dn dy) is), .fz (Dn c), .fz (Dn dy), .fz (.tup (is.map D.int)), e5, e6]
abbrev bAl : Ro → Option Fl := sIf (bOr (bT (eOp dGe (eVarB 6) (eCall dLen (aCons (eVarB 4) aNil)))) (bNot (bT (eMeth 2 tb_may dCall (eOp dIx (e1 (dFld "pots") (eVarB 0)) (eVarB 6)) (aCons (eOp dIx (eVarB 4) (eVarB 6)) aNil)))))
        (sRet (eC (.bl false)))
        sNil
theorem not_ev {f : Ro → EM D} {ρ : Ro} {b : Bool} (h : f ρ = some (.ok (.bl b))) : bNot (bT f) ρ = some (.ok (!b)) := not_tt _ _ b (bT_ev h)
theorem al_go (hl : is.length = ps.length) {c : Nat} {e5 : Ent} : ∀ (ws : List Nat) (e6 : Ent), (∀ k ∈ ws, k < ps.length) →
    (ws.all (mayK ps is) = true ∧ ∃ e6', forD (gN 6) bAl (ws.map Dn) (roA (gdD ps cans week cl ks) dy is c e5 e6) = some (.nx (roA (gdD ps cans week cl ks) dy is c e5 e6'))) ∨
    (ws.all (mayK ps is) = false ∧ forD (gN 6) bAl (ws.map Dn) (roA (gdD ps cans week cl ks) dy is c e5 e6) = some (.rt (.bl false)))
  | [], e6, _ => .inl ⟨rfl, e6, rfl⟩
  | k :: ws, e6, h => by
    have hk := h k List.mem_cons_self
    have hp : ps[k]? = some ps[k] := List.getElem?_eq_getElem hk
    have hi : is[k]? = some (is[k]'(by omega)) := List.getElem?_eq_getElem (by omega)
    have ePd : (ps.map P.d)[k]? = some (ps[k]).d := by rw [List.getElem?_map, hp]; rfl
    have eId : (is.map D.int)[k]? = some (.int (is[k]'(by omega))) := by rw [List.getElem?_map, hi]; rfl
    have ek : mayK ps is k = mayP ps[k] (is[k]'(by omega)) := by unfold mayK; rw [hp, hi]
    let ρ1 := roA (gdD ps cans week cl ks) dy is c e5 (.fz (Dn k))
    have hge : bT (eOp dGe (eVarB 6) (eCall dLen (aCons (eVarB 4) aNil))) ρ1 = some (.ok false) := by
      refine bT_ev (op_ev (d := Dn k) (e := .int (is.map D.int).length) rfl rfl ?_)
      show some (Except.ok (D.bl (decide (((is.map D.int).length : Int) ≤ (k : Int))))) = _
      rw [List.length_map, decide_eq_false (by omega)]
    have hm : eMeth 2 tb_may dCall (eOp dIx (e1 (dFld "pots") (eVarB 0)) (eVarB 6)) (aCons (eOp dIx (eVarB 4) (eVarB 6)) aNil) ρ1 = some (.ok (.bl (mayK ps is k))) := by
      rw [ek]
      exact may_ev (op_ev (d := .lst (ps.map P.d)) (e := Dn k) rfl rfl (ix_lst ePd)) (op_ev (d := .tup (is.map D.int)) (e := Dn k) rfl rfl (ix_tup eId))
    cases hb : mayK ps is k with
    | false =>
      rw [hb] at hm
      refine .inr ⟨by rw [List.all_cons, hb]; rfl, ?_⟩
      exact for_rt (ρ1 := ρ1) rfl (if_t (or_f hge (not_ev hm)) rfl)
    | true =>
      rw [hb] at hm
      have hs : bAl ρ1 = some (.nx ρ1) := if_f (or_f hge (not_ev hm)) rfl
      rcases al_go hl ws (.fz (Dn k)) (fun j hj => h j (List.mem_cons_of_mem _ hj)) with ⟨a, e6', f⟩ | ⟨a, f⟩
      · exact .inl ⟨by rw [List.all_cons, hb, a]; rfl, e6', (for_cons (ρ1 := ρ1) rfl hs).trans f⟩
      · exact .inr ⟨by rw [List.all_cons, hb, a]; rfl, (for_cons (ρ1 := ρ1) rfl hs).trans f⟩
/-- whether the day is closed or the cans are too few -/
def hind (cl dy : Nat) (cans : Int) (m : Nat) : Bool := cl.testBit dy || decide (cans < (m : Int))
def alF (ps : List P) (is : List Int) (cl dy : Nat) (cans : Int) (n c : Nat) : Bool := if hind cl dy cans (wet n c).length = true then decide (c = 0) else (wet n c).all (mayK ps is)
theorem allowed_is (hl : is.length = ps.length) (h8 : ps.length ≤ 8) {c : Nat} (hc : c < 2 ^ ps.length) : m_allowed [gdD ps cans week cl ks, stD (Dn dy) is, Dn c] = some (.ret (.bl (alF ps is cl dy cans ps.length c))) := by
  let g := gdD ps cans week cl ks
  let w := wet ps.length c
  have hw : w.length ≤ 8 := Nat.le_trans (wet_len _ _) h8
  have s1 : sUnp (gT (gsC (gN 3) (gsC (gN 4) gs0)) 2) (eVar 1) (startE 7 [g, stD (Dn dy) is, Dn c]) = some (.nx (roA g dy is c .un .un)) := rfl
  have s2 : sSet 5 (eCall (dDef 1 [] (dCall m_bits_of)) (aCons (eVar 2) aNil)) (roA g dy is c .un .un) = some (.nx (roA g dy is c (.fz (.lst (w.map Dn))) .un)) :=
    set_ev (i := 5) (d := .lst (w.map Dn)) (call_ev (ds := [Dn c]) rfl ((def_all rfl).trans (call_reto (bits_is hc (by omega)))))
  have hcd : bOr (bT (eOp dEq (eOp dAnd (eOp dShr (e1 (dFld "closed") (eVarB 0)) (eVarB 3)) (eC (.int 1))) (eC (.int 1)))) (bT (eOp dGt (eCall dLen (aCons (eVarB 5) aNil)) (e1 (dFld "cans") (eVarB 0)))) (roA g dy is c (.fz (.lst (w.map Dn))) .un) = some (.ok (hind cl dy cans w.length)) := by
    have b1 : bT (eOp dEq (eOp dAnd (eOp dShr (e1 (dFld "closed") (eVarB 0)) (eVarB 3)) (eC (.int 1))) (eC (.int 1))) (roA g dy is c (.fz (.lst (w.map Dn))) .un) = some (.ok (cl.testBit dy)) := bit_ev rfl rfl
    have b2 : bT (eOp dGt (eCall dLen (aCons (eVarB 5) aNil)) (e1 (dFld "cans") (eVarB 0))) (roA g dy is c (.fz (.lst (w.map Dn))) .un) = some (.ok (decide (cans < (w.length : Int)))) := by
      refine bT_ev (op_ev (d := .int (w.map Dn).length) (e := .int cans) rfl rfl ?_)
      show some (Except.ok (D.bl (decide (cans < ((w.map Dn).length : Int))))) = _
      rw [List.length_map]
    unfold hind
    cases hb : cl.testBit dy with
    | true => rw [hb] at b1; exact or_t b1
    | false => rw [hb] at b1; exact or_f b1 b2
  refine run_ret ((seq_nx s1).trans ((seq_nx s2).trans ?_))
  unfold alF
  by_cases hh : hind cl dy cans (wet ps.length c).length = true
  · rw [if_pos hh]
    rw [show hind cl dy cans w.length = true from hh] at hcd
    refine seq_rt (if_t hcd (ret_ev (op_ev (d := Dn c) (e := .int 0) rfl rfl ?_)))
    rw [eq_i, show decide ((c : Int) = 0) = decide (c = 0) from decide_eq_decide.mpr (by omega)]
  · rw [if_neg hh]
    rw [show hind cl dy cans w.length = false from by simpa using hh] at hcd
    refine (seq_nx (if_f hcd rfl)).trans ?_
    rcases al_go hl (cans := cans) (week := week) (cl := cl) (dy := dy) (ks := ks) (c := c) (e5 := .fz (.lst (w.map Dn))) w .un (fun k hk => (wet_mem.mp hk).1) with ⟨a, e6', f⟩ | ⟨a, f⟩
    · rw [a]
      exact (seq_nx (for_ev (ds := w.map Dn) rfl f)).trans rfl
    · rw [a]
      exact seq_rt (for_ev (ds := w.map Dn) rfl f)
/-- the days since, behind a choice -/
def bhF (c : Nat) : Nat → List Int → List P → Option (List Int)
  | s, i :: is, p :: ps => if c.testBit s = true then (bhF c (s + 1) is ps).map (0 :: ·) else if i + 1 = p.gap then none else (bhF c (s + 1) is ps).map ((i + 1) :: ·)
  | _, _, _ => some []
abbrev bBh : Ro → Option Fl := sIf (bT (eOp dEq (eOp dAnd (eOp dShr (eVarB 2) (eVarB 6)) (eC (.int 1))) (eC (.int 1))))
        (gdO 5 (sApp 5 (eC (.int 0))))
        (sIf (bT (eOp dEq (eOp dAddU (eOp dIx (eVarB 4) (eVarB 6)) (eC (.int 1))) (e1 (dFld "gap") (eOp dIx (e1 (dFld "pots") (eVarB 0)) (eVarB 6)))))
          (sRet (eC .non))
          (gdO 5 (sApp 5 (eOp dAddU (eOp dIx (eVarB 4) (eVarB 6)) (eC (.int 1))))))
theorem bh_go {c : Nat} : ∀ (ps1 : List P) (is1 : List Int) (s : Nat) (acc : List Int) (e6 : Ent), ps.drop s = ps1 → is.drop s = is1 → is1.length = ps1.length → acc.length + ps1.length ≤ 1000 →
    (∃ r e6', bhF c s is1 ps1 = some r ∧ forD (gN 6) bBh ((List.range' s ps1.length).map Dn) (roA (gdD ps cans week cl ks) dy is c (.ow (acc.map D.int)) e6) = some (.nx (roA (gdD ps cans week cl ks) dy is c (.ow ((acc ++ r).map D.int)) e6'))) ∨
    (bhF c s is1 ps1 = none ∧ forD (gN 6) bBh ((List.range' s ps1.length).map Dn) (roA (gdD ps cans week cl ks) dy is c (.ow (acc.map D.int)) e6) = some (.rt .non))
  | [], is1, s, acc, e6, h1, h2, hl, _ => by
    have : is1 = [] := by cases is1 with | nil => rfl | cons _ _ => cases hl
    subst this
    exact .inl ⟨[], e6, rfl, by rw [List.append_nil]; rfl⟩
  | p :: ps1, [], s, acc, e6, h1, h2, hl, _ => by cases hl
  | p :: ps1, i :: is1, s, acc, e6, h1, h2, hl, hz => by
    obtain ⟨g1, g2⟩ := drop_get h1
    obtain ⟨d1, d2⟩ := drop_get h2
    have ePd : (ps.map P.d)[s]? = some p.d := by rw [List.getElem?_map, g1]; rfl
    have eId : (is.map D.int)[s]? = some (.int i) := by rw [List.getElem?_map, d1]; rfl
    simp only [List.length_cons] at hl hz
    let ρ1 := roA (gdD ps cans week cl ks) dy is c (.ow (acc.map D.int)) (.fz (Dn s))
    have eI : eOp dAddU (eOp dIx (eVarB 4) (eVarB 6)) (eC (.int 1)) ρ1 = some (.ok (.int (i + 1))) := op_ev (d := .int i) (e := .int 1) (op_ev (d := .tup (is.map D.int)) (e := Dn s) rfl rfl (ix_tup eId)) rfl rfl
    have eG : e1 (dFld "gap") (eOp dIx (e1 (dFld "pots") (eVarB 0)) (eVarB 6)) ρ1 = some (.ok (.int p.gap)) := e1_ev (d := p.d) (op_ev (d := .lst (ps.map P.d)) (e := Dn s) rfl rfl (ix_lst ePd)) p.gap_is
    have hb : bT (eOp dEq (eOp dAnd (eOp dShr (eVarB 2) (eVarB 6)) (eC (.int 1))) (eC (.int 1))) ρ1 = some (.ok (c.testBit s)) := bit_ev rfl rfl
    rw [List.length_cons, List.range'_succ, List.map_cons]
    have step : ∀ (v : Int), bBh ρ1 = some (.nx (roA (gdD ps cans week cl ks) dy is c (.ow ((acc ++ [v]).map D.int)) (.fz (Dn s)))) → bhF c s (i :: is1) (p :: ps1) = (bhF c (s + 1) is1 ps1).map (v :: ·) →
        (∃ r e6', bhF c s (i :: is1) (p :: ps1) = some r ∧ forD (gN 6) bBh (Dn s :: (List.range' (s + 1) ps1.length).map Dn) (roA (gdD ps cans week cl ks) dy is c (.ow (acc.map D.int)) e6) = some (.nx (roA (gdD ps cans week cl ks) dy is c (.ow ((acc ++ r).map D.int)) e6'))) ∨
        (bhF c s (i :: is1) (p :: ps1) = none ∧ forD (gN 6) bBh (Dn s :: (List.range' (s + 1) ps1.length).map Dn) (roA (gdD ps cans week cl ks) dy is c (.ow (acc.map D.int)) e6) = some (.rt .non)) := by
      intro v hs hf
      rcases bh_go ps1 is1 (s + 1) (acc ++ [v]) (.fz (Dn s)) g2 d2 (by omega) (by simp; omega) with ⟨r, e6', a, f⟩ | ⟨a, f⟩
      · refine .inl ⟨v :: r, e6', by rw [hf, a]; rfl, (for_cons (ρ1 := ρ1) rfl hs).trans (f.trans ?_)⟩
        rw [List.append_assoc]; rfl
      · exact .inr ⟨by rw [hf, a]; rfl, (for_cons (ρ1 := ρ1) rfl hs).trans f⟩
    cases hbit : c.testBit s with
    | true =>
      rw [hbit] at hb
      refine step 0 ?_ ?_
      · rw [List.map_append]
        exact if_t hb (app_ev (i := 5) (ds := acc.map D.int) (d := .int 0) rfl rfl (by rw [List.length_map]; omega))
      · show (if c.testBit s = true then _ else _) = _
        rw [if_pos hbit]
    | false =>
      rw [hbit] at hb
      have hq : bT (eOp dEq (eOp dAddU (eOp dIx (eVarB 4) (eVarB 6)) (eC (.int 1))) (e1 (dFld "gap") (eOp dIx (e1 (dFld "pots") (eVarB 0)) (eVarB 6)))) ρ1 = some (.ok (decide (i + 1 = p.gap))) := bT_ev (op_ev eI eG rfl)
      by_cases hd : i + 1 = p.gap
      · rw [decide_eq_true hd] at hq
        refine .inr ⟨?_, for_rt (ρ1 := ρ1) rfl (if_f hb (if_t hq rfl))⟩
        show (if c.testBit s = true then _ else _) = _
        rw [if_neg (by rw [hbit]; decide), if_pos hd]
      · rw [decide_eq_false hd] at hq
        refine step (i + 1) ?_ ?_
        · rw [List.map_append]
          exact if_f hb (if_f hq (app_ev (i := 5) (ds := acc.map D.int) (d := .int (i + 1)) rfl eI (by rw [List.length_map]; omega)))
        · show (if c.testBit s = true then _ else _) = _
          rw [if_neg (by rw [hbit]; decide), if_neg hd]
/-- the state behind -/
def nextD (week : Int) (dy : Nat) (r : List Int) : D := stD (.int (((dy : Int) + 1) % week)) r
def bhD (week : Int) (dy : Nat) (is : List Int) (ps : List P) (c : Nat) : D := match bhF c 0 is ps with
  | none => .non
  | some r => nextD week dy r
theorem behind_is (hl : is.length = ps.length) (h8 : ps.length ≤ 8) (hw : 0 < week) {c : Nat} : m_behind [gdD ps cans week cl ks, stD (Dn dy) is, Dn c] = some (.ret (bhD week dy is ps c)) := by
  let g := gdD ps cans week cl ks
  have s1 : sUnp (gT (gsC (gN 3) (gsC (gN 4) gs0)) 2) (eVar 1) (startE 7 [g, stD (Dn dy) is, Dn c]) = some (.nx (roA g dy is c .un .un)) := rfl
  have s2 : sSetO 5 (eLst aNil) (roA g dy is c .un .un) = some (.nx (roA g dy is c (.ow ([] : List D)) .un)) := rfl
  have rg : iRg dRng1 (aCons (eCall dLen (aCons (eVarB 4) aNil)) aNil) (roA g dy is c (.ow ([] : List D)) .un) = some (.ok ((List.range' 0 ps.length).map Dn)) := by
    refine rg_ev (ds := [.int (is.map D.int).length]) rfl ?_
    rw [List.length_map, hl]
    exact rng1_is _ (by omega)
  refine run_ret ((seq_nx s1).trans ((seq_nx s2).trans ?_))
  unfold bhD
  rcases bh_go (cans := cans) (week := week) (cl := cl) (dy := dy) (ks := ks) (c := c) ps is 0 [] .un rfl rfl hl (by simp; omega) with ⟨r, e6', a, f⟩ | ⟨a, f⟩
  · rw [a]
    refine (seq_nx (for_ev rg f)).trans (ret_ev (tup_ev (n := 2) (a_cons (op_ev (d := .int ((dy : Int) + 1)) (e := .int week) rfl rfl (mod_ev hw)) (a_cons (call_ev (ds := [.lst (r.map D.int)]) rfl rfl) rfl)) (Nat.le_refl 2)))
  · rw [a]
    exact seq_rt (for_ev rg f)
end
end K06
namespace K06
open PySem PySem.Spec PyProof.Rows L2 Tw
/-! ### choices -/
/-- digits below the gaps -/
def okI : List Int → List P → Prop
  | [], [] => True
  | i :: is, p :: ps => (0 ≤ i ∧ i < p.gap) ∧ okI is ps
  | _, _ => False
theorem okI_len : ∀ {is : List Int} {ps : List P}, okI is ps → is.length = ps.length
  | [], [], _ => rfl
  | i :: is, p :: ps, h => by rw [List.length_cons, List.length_cons, okI_len h.2]
theorem okI_num : ∀ {is : List Int} {ps : List P} (a : Int), okI is ps → ∃ r, numGo a (is.map D.int) ps = some r
  | [], [], a, _ => ⟨a, rfl⟩
  | i :: is, p :: ps, a, h => by
    obtain ⟨r, hr⟩ := okI_num (a * p.gap + i) h.2
    refine ⟨r, ?_⟩
    have ok : okD (.int i) p.gap = true := by
      show (decide (0 ≤ i) && decide (i ≤ p.gap - 1)) = true
      rw [decide_eq_true h.1.1, decide_eq_true (by have := h.1.2; omega)]; rfl
    show (if okD (.int i) p.gap = true then numGo (a * p.gap + i) (is.map D.int) ps else none) = _
    rw [if_pos ok, hr]
theorem noObj_ints (is : List Int) : ∀ d ∈ is.map D.int, noObj d = true := fun d hd => by
  obtain ⟨i, _, rfl⟩ := List.mem_map.mp hd
  rfl
section
variable {ps : List P} {cans week : Int} {cl dy : Nat} {ks : List (Str × Int)} {is : List Int}
/-- a choice and what lies behind it, if it leaves none dry -/
def stepF (ps : List P) (is : List Int) (cl dy : Nat) (cans week : Int) (c : Nat) : Option D := if alF ps is cl dy cans ps.length c = true then (bhF c 0 is ps).map fun r => .tup [Dn c, nextD week dy r] else none
abbrev roC (g st : D) (acc : List D) (e3 e4 : Ent) : Ro := [.fz g, .fz st, .ow acc, e3, e4]
noncomputable abbrev bCh : Ro → Option Fl := sIf (bT (eCall (dDef 3 [] (dCall m_allowed)) (aCons (eVar 0) (aCons (eVar 1) (aCons (eVar 3) aNil)))))
        (sSeq (sSet 4 (eCall (dDef 3 [] (dCall m_behind)) (aCons (eVar 0) (aCons (eVar 1) (aCons (eVar 3) aNil)))))
        (sIf (bT (eOp dNotN (eVarB 4) (eC .non)))
          (gdO 2 (sApp 2 (eTup (aCons (eVar 3) (aCons (eVar 4) aNil)))))
          sNil))
        sNil
theorem ch_step (hl : is.length = ps.length) (h8 : ps.length ≤ 8) (hw : 0 < week) {c : Nat} (hc : c < 2 ^ ps.length) {acc : List D} (ha : acc.length < 1000) {e4 : Ent} :
    ∃ e4', bCh (roC (gdD ps cans week cl ks) (stD (Dn dy) is) acc (.fz (Dn c)) e4) = some (.nx (roC (gdD ps cans week cl ks) (stD (Dn dy) is) (acc ++ (stepF ps is cl dy cans week c).toList) (.fz (Dn c)) e4')) := by
  let g := gdD ps cans week cl ks
  have h1 : bT (eCall (dDef 3 [] (dCall m_allowed)) (aCons (eVar 0) (aCons (eVar 1) (aCons (eVar 3) aNil)))) (roC g (stD (Dn dy) is) acc (.fz (Dn c)) e4) = some (.ok (alF ps is cl dy cans ps.length c)) :=
    bT_ev (call_ev (ds := [g, stD (Dn dy) is, Dn c]) rfl ((def_all rfl).trans (call_ret (allowed_is hl h8 hc))))
  unfold stepF
  by_cases z : alF ps is cl dy cans ps.length c = true
  · rw [z] at h1
    rw [if_pos z]
    have h2 : sSet 4 (eCall (dDef 3 [] (dCall m_behind)) (aCons (eVar 0) (aCons (eVar 1) (aCons (eVar 3) aNil)))) (roC g (stD (Dn dy) is) acc (.fz (Dn c)) e4) = some (.nx (roC g (stD (Dn dy) is) acc (.fz (Dn c)) (.fz (bhD week dy is ps c)))) :=
      set_ev (i := 4) (call_ev (ds := [g, stD (Dn dy) is, Dn c]) rfl ((def_all rfl).trans (call_ret (behind_is hl h8 hw))))
    refine ⟨.fz (bhD week dy is ps c), if_t h1 ((seq_nx h2).trans ?_)⟩
    unfold bhD
    cases hb : bhF c 0 is ps with
    | none => rw [Option.map_none, Option.toList_none, List.append_nil]; exact if_f rfl rfl
    | some r =>
      rw [Option.map_some, Option.toList_some]
      exact if_t rfl (app_ev (i := 2) (ds := acc) (d := .tup [Dn c, nextD week dy r]) rfl (tup_ev (n := 2) (a_cons rfl (a_cons rfl rfl)) (Nat.le_refl 2)) (by omega))
  · rw [if_neg z, Option.toList_none, List.append_nil]
    rw [show alF ps is cl dy cans ps.length c = false from by simpa using z] at h1
    exact ⟨e4, if_f h1 rfl⟩
theorem ch_go (hl : is.length = ps.length) (h8 : ps.length ≤ 8) (hw : 0 < week) : ∀ (m s : Nat) (acc : List D) (e3 e4 : Ent), s + m ≤ 2 ^ ps.length → acc.length ≤ s →
    ∃ e3' e4', forD (gN 3) bCh ((List.range' s m).map Dn) (roC (gdD ps cans week cl ks) (stD (Dn dy) is) acc e3 e4) = some (.nx (roC (gdD ps cans week cl ks) (stD (Dn dy) is) (acc ++ (List.range' s m).filterMap (stepF ps is cl dy cans week)) e3' e4'))
  | 0, s, acc, e3, e4, _, _ => ⟨e3, e4, by rw [show List.range' s 0 = [] from rfl, List.filterMap_nil, List.append_nil]; rfl⟩
  | m + 1, s, acc, e3, e4, h, ha => by
    have h256 : 2 ^ ps.length ≤ 256 := Nat.pow_le_pow_right (by decide) h8
    obtain ⟨e4', hs⟩ := ch_step (cans := cans) (week := week) (cl := cl) (dy := dy) (ks := ks) hl h8 hw (c := s) (by omega) (acc := acc) (by omega) (e4 := e4)
    have hlen : (acc ++ (stepF ps is cl dy cans week s).toList).length ≤ s + 1 := by
      rw [List.length_append]
      cases stepF ps is cl dy cans week s <;> simp <;> omega
    obtain ⟨f3, f4, ih⟩ := ch_go hl h8 hw m (s + 1) _ (.fz (Dn s)) e4' (by omega) hlen
    refine ⟨f3, f4, ?_⟩
    rw [List.range'_succ, List.map_cons]
    refine (for_cons (ρ1 := roC (gdD ps cans week cl ks) (stD (Dn dy) is) acc (.fz (Dn s)) e4) rfl hs).trans (ih.trans ?_)
    rw [List.append_assoc, List.filterMap_cons]
    cases stepF ps is cl dy cans week s <;> rfl
def stepsF (ps : List P) (is : List Int) (cl dy : Nat) (cans week : Int) : List D := (List.range' 0 (2 ^ ps.length)).filterMap (stepF ps is cl dy cans week)
theorem shl_one (n : Nat) (h : n ≤ 1000) : dShl (.int 1) (.int n) = some (.ok (Dn (2 ^ n))) := by
  show (if cPow 1 (n : Int) = true then ok (D.int (1 * 2 ^ ((n : Int).toNat))) else none) = _
  rw [if_pos (by unfold cPow; rw [decide_eq_true (by omega), decide_eq_true (by omega), decide_eq_true (by decide)]; rfl), Int.toNat_natCast, Int.one_mul]
  show some (Except.ok (D.int ((2 : Int) ^ n))) = some (Except.ok (D.int ((2 ^ n : Nat) : Int)))
  rw [Int.natCast_pow]; rfl
theorem number_ok (hg : Gap ps) (hi : okI is ps) (hd : (dy : Int) < week) (h8 : ps.length ≤ 8) : ∃ r, m_Garden_number [gdD ps cans week cl ks, stD (Dn dy) is] = some (.ret (.int r)) := by
  obtain ⟨r, hr⟩ := okI_num (dy : Int) hi
  refine ⟨r, ?_⟩
  rw [num_is hg (noObj_ints is) (by rw [List.length_map, okI_len hi]) (by omega) hd h8, hr]
theorem drop_ev {f : Ro → EM D} {ρ : Ro} {d : D} (h : f ρ = some (.ok d)) : sDrop f ρ = some (.nx ρ) := by unfold sDrop; rw [h]; rfl
theorem drop_er {f : Ro → EM D} {ρ : Ro} {e : Xn} (h : f ρ = some (.error e)) : sDrop f ρ = some (.ex e ρ) := by unfold sDrop; rw [h]; rfl
end
end K06
namespace K06
open PySem PySem.Spec PyProof.Rows L2 Tw
/-! ### the law's own steps -/
/-- a pot told plainly -/
structure S where
  nm : Str
  gap : Int
  rest : Int
def S.d (s : S) : D := .tup [.str s.nm, .int s.gap, .int s.rest]
def S.p (s : S) : P := ⟨s.nm, s.gap, if s.rest < 0 then none else some s.rest⟩
abbrev spD3 (ss : List S) (cans week : Int) (cl : Nat) : D := .tup [.lst (ss.map S.d), .int cans, .int week, .int cl]
theorem canLayL_ints : ∀ is : List Int, PyData.canLayAll0 (pyL (is.map D.int)) = true := fun is => by rw [pyI]; exact layI is
theorem fit_int (i : Int) : fit (.int i) = true := by
  show SeqAt.shaped (.int i) = true
  unfold SeqAt.shaped
  simp [PyData.canLay0, PyData.depth]
theorem fit_nil : fit (.lst []) = true := fit_l []
theorem map_Dn (ws : List Nat) : ws.map Dn = (ws.map fun (k : Nat) => (k : Int)).map D.int := by rw [List.map_map]; rfl
theorem ne_nil (ws : List Nat) : dNe (.lst (ws.map Dn)) (.lst []) = some (.ok (.bl (!decide (ws = [])))) := by
  rw [map_Dn]
  show (if fit (.lst ((ws.map fun (k : Nat) => (k : Int)).map D.int)) = true ∧ fit (.lst []) = true then ok (D.bl (!PyData.eqv (.list (pyL ((ws.map fun (k : Nat) => (k : Int)).map D.int))) (.list (pyL [])))) else none) = _
  rw [if_pos ⟨fit_l _, fit_nil⟩, pyI]
  cases ws with
  | nil => simp [PyData.eqv, PyData.eqvAll, pyL, ok]
  | cons k ws => simp [PyData.eqv, PyData.eqvAll, pyL, ok]
theorem eqvI1 (i j : Int) : PyData.eqv (.int i) (.int j) = decide (i = j) := by
  simp only [PyData.eqv]
  first | rfl | exact (Bool.eq_iff_iff.mpr (by simp))
theorem any_nat (k : Nat) : ∀ ws : List Nat, ((pyL (ws.map Dn)).any fun z => PyData.eqv z (py (Dn k))) = decide (k ∈ ws)
  | [] => by simp [pyL]
  | j :: ws => by
    show (PyData.eqv (.int (j : Int)) (.int (k : Int)) || (pyL (ws.map Dn)).any fun z => PyData.eqv z (py (Dn k))) = _
    rw [any_nat k ws, eqvI1]
    by_cases z : k = j
    · subst z; simp
    · have : ¬ (j : Int) = (k : Int) := by omega
      simp [z, this]
theorem in_nat (k : Nat) (ws : List Nat) : dIn (Dn k) (.lst (ws.map Dn)) = some (.ok (.bl (decide (k ∈ ws)))) := by
  show (if fit (Dn k) = true ∧ fit (.lst (ws.map Dn)) = true then ok (D.bl ((pyL (ws.map Dn)).any fun z => PyData.eqv z (py (Dn k)))) else none) = _
  rw [if_pos ⟨fit_int _, by rw [map_Dn]; exact fit_l _⟩, any_nat]
  rfl
section
variable {ss : List S} {cans week : Int} {cl dy : Nat} {is : List Int}
abbrev roB (ss : List S) (cans week : Int) (cl dy : Nat) (is : List Int) (ws : List Nat) (e9 e10 e11 : Ent) : Ro := [.fz (spD3 ss cans week cl), .fz (stD (Dn dy) is), .fz (.lst (ws.map Dn)), .fz (.lst (ss.map S.d)), .fz (.int cans), .fz (.int week), .fz (.int cl), .fz (Dn dy), .fz (.tup (is.map D.int)), e9, e10, e11]
abbrev bL1 : Ro → Option Fl := sIf (bT (eOp dLt (eOp dIx (eVarB 8) (eVarB 9)) (eOp dIx (eOp dIx (eVarB 3) (eVarB 9)) (eC (.int 2)))))
        (sRet (eC .non))
        sNil
/-- may the pot at a place be watered, told plainly -/
def mayS (ss : List S) (is : List Int) (k : Nat) : Bool := match ss[k]?, is[k]? with
  | some s, some i => !decide (i < s.rest)
  | _, _ => false
theorem l1_go (hl : is.length = ss.length) {zs : List Nat} {e10 e11 : Ent} : ∀ (ws : List Nat) (e9 : Ent), (∀ k ∈ ws, k < ss.length) →
    (ws.all (mayS ss is) = true ∧ ∃ e9', forD (gN 9) bL1 (ws.map Dn) (roB ss cans week cl dy is zs e9 e10 e11) = some (.nx (roB ss cans week cl dy is zs e9' e10 e11))) ∨
    (ws.all (mayS ss is) = false ∧ forD (gN 9) bL1 (ws.map Dn) (roB ss cans week cl dy is zs e9 e10 e11) = some (.rt .non))
  | [], e9, _ => .inl ⟨rfl, e9, rfl⟩
  | k :: ws, e9, h => by
    have hk := h k List.mem_cons_self
    have hp : ss[k]? = some ss[k] := List.getElem?_eq_getElem hk
    have hi : is[k]? = some (is[k]'(by omega)) := List.getElem?_eq_getElem (by omega)
    have ePd : (ss.map S.d)[k]? = some (ss[k]).d := by rw [List.getElem?_map, hp]; rfl
    have eId : (is.map D.int)[k]? = some (.int (is[k]'(by omega))) := by rw [List.getElem?_map, hi]; rfl
    have ek : mayS ss is k = !decide ((is[k]'(by omega)) < (ss[k]).rest) := by unfold mayS; rw [hp, hi]
    let ρ1 := roB ss cans week cl dy is zs (.fz (Dn k)) e10 e11
    have hc : bT (eOp dLt (eOp dIx (eVarB 8) (eVarB 9)) (eOp dIx (eOp dIx (eVarB 3) (eVarB 9)) (eC (.int 2)))) ρ1 = some (.ok (!mayS ss is k)) := by
      rw [ek, Bool.not_not]
      exact bT_ev (op_ev (d := .int (is[k]'(by omega))) (e := .int (ss[k]).rest) (op_ev (d := .tup (is.map D.int)) (e := Dn k) rfl rfl (ix_tup eId)) (op_ev (d := (ss[k]).d) (e := .int 2) (op_ev (d := .lst (ss.map S.d)) (e := Dn k) rfl rfl (ix_lst ePd)) rfl rfl) rfl)
    by_cases z : mayS ss is k = true
    · rw [z] at hc
      have hs : bL1 ρ1 = some (.nx ρ1) := if_f hc rfl
      rcases l1_go hl ws (.fz (Dn k)) (fun j hj => h j (List.mem_cons_of_mem _ hj)) with ⟨a, e9', f⟩ | ⟨a, f⟩
      · exact .inl ⟨by rw [List.all_cons, z, a]; rfl, e9', (for_cons (ρ1 := ρ1) rfl hs).trans f⟩
      · exact .inr ⟨by rw [List.all_cons, z, a]; rfl, (for_cons (ρ1 := ρ1) rfl hs).trans f⟩
    · have z' : mayS ss is k = false := by simpa using z
      rw [z'] at hc
      exact .inr ⟨by rw [List.all_cons, z']; rfl, for_rt (ρ1 := ρ1) rfl (if_t hc rfl)⟩
abbrev bL2 : Ro → Option Fl := (sSeq (sSet 11 (eIf (bT (eOp dIn (eVarB 9) (eVarB 2))) (eC (.int 0)) (eOp dAddU (eOp dIx (eVarB 8) (eVarB 9)) (eC (.int 1)))))
      (sSeq (sIf (bT (eOp dEq (eVarB 11) (eOp dIx (eOp dIx (eVarB 3) (eVarB 9)) (eC (.int 1)))))
        (sRet (eOp dIx (eOp dIx (eVarB 3) (eVarB 9)) (eC (.int 0))))
        sNil)
      (gdO 10 (sApp 10 (eVar 11)))))
theorem l2_go {c : Nat} {zs : List Nat} (hz : ∀ k, k < ss.length → (k ∈ zs ↔ c.testBit k = true)) (hg : ∀ s ∈ ss, 1 ≤ s.gap) : ∀ (s1 : List S) (is1 : List Int) (k : Nat) (acc : List Int) (e9 e11 : Ent), ss.drop k = s1 → is.drop k = is1 → is1.length = s1.length → acc.length + s1.length ≤ 1000 →
    (∃ r e9' e11', bhF c k is1 (s1.map S.p) = some r ∧ forD (gN 9) bL2 ((List.range' k s1.length).map Dn) (roB ss cans week cl dy is zs e9 (.ow (acc.map D.int)) e11) = some (.nx (roB ss cans week cl dy is zs e9' (.ow ((acc ++ r).map D.int)) e11'))) ∨
    (bhF c k is1 (s1.map S.p) = none ∧ ∃ nm, forD (gN 9) bL2 ((List.range' k s1.length).map Dn) (roB ss cans week cl dy is zs e9 (.ow (acc.map D.int)) e11) = some (.rt (.str nm)))
  | [], is1, k, acc, e9, e11, h1, h2, hl, _ => by
    have : is1 = [] := by cases is1 with | nil => rfl | cons _ _ => cases hl
    subst this
    exact .inl ⟨[], e9, e11, rfl, by rw [List.append_nil]; rfl⟩
  | s :: s1, [], k, acc, e9, e11, h1, h2, hl, _ => by cases hl
  | s :: s1, i :: is1, k, acc, e9, e11, h1, h2, hl, hy => by
    obtain ⟨g1, g2⟩ := drop_get h1
    obtain ⟨d1, d2⟩ := drop_get h2
    have hk : k < ss.length := (List.getElem?_eq_some_iff.mp g1).1
    have hgap := hg s (List.mem_of_getElem? g1)
    have ePd : (ss.map S.d)[k]? = some s.d := by rw [List.getElem?_map, g1]; rfl
    have eId : (is.map D.int)[k]? = some (.int i) := by rw [List.getElem?_map, d1]; rfl
    simp only [List.length_cons] at hl hy
    let far : Int := if c.testBit k = true then 0 else i + 1
    let ρ1 := roB ss cans week cl dy is zs (.fz (Dn k)) (.ow (acc.map D.int)) e11
    let ρ2 := roB ss cans week cl dy is zs (.fz (Dn k)) (.ow (acc.map D.int)) (.fz (.int far))
    have hin : bT (eOp dIn (eVarB 9) (eVarB 2)) ρ1 = some (.ok (c.testBit k)) := by
      refine bT_ev (op_ev (d := Dn k) (e := .lst (zs.map Dn)) rfl rfl ((in_nat k zs).trans ?_))
      have := hz k hk
      congr 3
      cases hb : c.testBit k with
      | true => exact decide_eq_true (this.mpr hb)
      | false => exact decide_eq_false (fun q => by have := this.mp q; rw [hb] at this; cases this)
    have hfar : sSet 11 (eIf (bT (eOp dIn (eVarB 9) (eVarB 2))) (eC (.int 0)) (eOp dAddU (eOp dIx (eVarB 8) (eVarB 9)) (eC (.int 1)))) ρ1 = some (.nx ρ2) := by
      refine set_ev (i := 11) (d := .int far) ?_
      unfold eIf
      rw [hin, bnd_ok]
      by_cases hb : c.testBit k = true
      · rw [if_pos hb, show far = 0 from if_pos hb]; rfl
      · rw [if_neg hb, show far = i + 1 from if_neg hb]
        exact op_ev (d := .int i) (e := .int 1) (op_ev (d := .tup (is.map D.int)) (e := Dn k) rfl rfl (ix_tup eId)) rfl rfl
    have eP : eOp dIx (eVarB 3) (eVarB 9) ρ2 = some (.ok s.d) := op_ev (d := .lst (ss.map S.d)) (e := Dn k) rfl rfl (ix_lst ePd)
    have hq : bT (eOp dEq (eVarB 11) (eOp dIx (eOp dIx (eVarB 3) (eVarB 9)) (eC (.int 1)))) ρ2 = some (.ok (decide (far = s.gap))) := bT_ev (op_ev (d := .int far) (e := .int s.gap) rfl (op_ev (d := s.d) (e := .int 1) eP rfl rfl) rfl)
    rw [List.length_cons, List.range'_succ, List.map_cons]
    have bh_cons : bhF c k (i :: is1) (s.p :: s1.map S.p) = if far = s.gap then none else (bhF c (k + 1) is1 (s1.map S.p)).map (far :: ·) := by
      show (if c.testBit k = true then (bhF c (k + 1) is1 (s1.map S.p)).map (0 :: ·) else if i + 1 = s.gap then none else (bhF c (k + 1) is1 (s1.map S.p)).map ((i + 1) :: ·)) = _
      by_cases hb : c.testBit k = true
      · rw [if_pos hb, show far = 0 from if_pos hb, if_neg (by omega)]
      · rw [if_neg hb, show far = i + 1 from if_neg hb]
    by_cases hd : far = s.gap
    · rw [decide_eq_true hd] at hq
      refine .inr ⟨by rw [bh_cons, if_pos hd], s.nm, for_rt (ρ1 := ρ1) rfl ((seq_nx hfar).trans (seq_rt (if_t hq (ret_ev (op_ev (d := s.d) (e := .int 0) eP rfl rfl)))))⟩
    · rw [decide_eq_false hd] at hq
      have hs : bL2 ρ1 = some (.nx (roB ss cans week cl dy is zs (.fz (Dn k)) (.ow ((acc ++ [far]).map D.int)) (.fz (.int far)))) := by
        refine (seq_nx hfar).trans ((seq_nx (if_f hq rfl)).trans ?_)
        rw [List.map_append]
        exact app_ev (i := 10) (ds := acc.map D.int) (d := .int far) rfl rfl (by rw [List.length_map]; omega)
      rcases l2_go hz hg s1 is1 (k + 1) (acc ++ [far]) (.fz (Dn k)) (.fz (.int far)) g2 d2 (by omega) (by simp; omega) with ⟨r, e9', e11', a, f⟩ | ⟨a, nm, f⟩
      · refine .inl ⟨far :: r, e9', e11', by rw [bh_cons, if_neg hd, a]; rfl, (for_cons (ρ1 := ρ1) rfl hs).trans (f.trans ?_)⟩
        rw [List.append_assoc]; rfl
      · exact .inr ⟨by rw [bh_cons, if_neg hd, a]; rfl, nm, (for_cons (ρ1 := ρ1) rfl hs).trans f⟩
/-- what the law's own reckoning of a day comes to -/
theorem lb_is (hl : is.length = ss.length) (h8 : ss.length ≤ 8) (hw : 0 < week) (hg : ∀ s ∈ ss, 1 ≤ s.gap) {c : Nat} (hc : c < 2 ^ ss.length) :
    ∃ d, m_law_behind [spD3 ss cans week cl, stD (Dn dy) is, .lst ((wet ss.length c).map Dn)] = some (.ret d) ∧
      ((∃ r, d = nextD week dy r ∧ bhF c 0 is (ss.map S.p) = some r ∧ (hind cl dy cans (wet ss.length c).length = true → c = 0) ∧ (wet ss.length c).all (mayS ss is) = true) ∨
       (dIs tab_tuple d = some (.ok (.bl false)) ∧ (bhF c 0 is (ss.map S.p) = none ∨ (hind cl dy cans (wet ss.length c).length = true ∧ c ≠ 0) ∨ (wet ss.length c).all (mayS ss is) = false))) := by
  let w := wet ss.length c
  have hwl : w.length ≤ 8 := Nat.le_trans (wet_len _ _) h8
  have s1 : sUnp (gT (gsC (gN 3) (gsC (gN 4) (gsC (gN 5) (gsC (gN 6) gs0)))) 4) (eVar 0) (startE 12 [spD3 ss cans week cl, stD (Dn dy) is, .lst (w.map Dn)]) = some (.nx [.fz (spD3 ss cans week cl), .fz (stD (Dn dy) is), .fz (.lst (w.map Dn)), .fz (.lst (ss.map S.d)), .fz (.int cans), .fz (.int week), .fz (.int cl), .un, .un, .un, .un, .un]) := rfl
  have s2 : sUnp (gT (gsC (gN 7) (gsC (gN 8) gs0)) 2) (eVar 1) [.fz (spD3 ss cans week cl), .fz (stD (Dn dy) is), .fz (.lst (w.map Dn)), .fz (.lst (ss.map S.d)), .fz (.int cans), .fz (.int week), .fz (.int cl), .un, .un, .un, .un, .un] = some (.nx (roB ss cans week cl dy is w .un .un .un)) := rfl
  have b1 : bT (eOp dEq (eOp dAnd (eOp dShr (eVarB 6) (eVarB 7)) (eC (.int 1))) (eC (.int 1))) (roB ss cans week cl dy is w .un .un .un) = some (.ok (cl.testBit dy)) := bit_ev rfl rfl
  have b2 : bT (eOp dGt (eCall dLen (aCons (eVarB 2) aNil)) (eVarB 4)) (roB ss cans week cl dy is w .un .un .un) = some (.ok (decide (cans < (w.length : Int)))) := by
    refine bT_ev (op_ev (d := .int (w.map Dn).length) (e := .int cans) rfl rfl ?_)
    show some (Except.ok (D.bl (decide (cans < ((w.map Dn).length : Int))))) = _
    rw [List.length_map]
  have b0 : bT (eOp dNe (eVarB 2) (eLst aNil)) (roB ss cans week cl dy is w .un .un .un) = some (.ok (!decide (c = 0))) := by
    refine bT_ev (op_ev (d := .lst (w.map Dn)) (e := .lst []) rfl rfl ((ne_nil w).trans ?_))
    rw [show decide (w = []) = decide (c = 0) from decide_eq_decide.mpr (wet_nil hc)]
  have b3 : bAnd (bT (eOp dNe (eVarB 2) (eLst aNil))) (bOr (bT (eOp dEq (eOp dAnd (eOp dShr (eVarB 6) (eVarB 7)) (eC (.int 1))) (eC (.int 1)))) (bT (eOp dGt (eCall dLen (aCons (eVarB 2) aNil)) (eVarB 4)))) (roB ss cans week cl dy is w .un .un .un) = some (.ok (!decide (c = 0) && hind cl dy cans w.length)) := by
    by_cases z : c = 0
    · rw [decide_eq_true z] at b0 ⊢
      exact and_f b0
    · rw [decide_eq_false z] at b0 ⊢
      refine and_t b0 ?_
      unfold hind
      cases hb : cl.testBit dy with
      | true => rw [hb] at b1; exact or_t b1
      | false => rw [hb] at b1; exact or_f b1 b2
  by_cases z : (!decide (c = 0) && hind cl dy cans w.length) = true
  · rw [z] at b3
    have z' : c ≠ 0 ∧ hind cl dy cans w.length = true := by simpa using z
    exact ⟨.non, run_ret ((seq_nx s1).trans ((seq_nx s2).trans (seq_rt (if_t b3 rfl)))), .inr ⟨rfl, .inr (.inl ⟨z'.2, z'.1⟩)⟩⟩
  · have z1 : (!decide (c = 0) && hind cl dy cans w.length) = false := by simpa using z
    rw [z1] at b3
    have z2 : hind cl dy cans w.length = true → c = 0 := fun q => by
      rw [q, Bool.and_true] at z1
      simpa using z1
    rcases l1_go (cans := cans) (week := week) (cl := cl) (dy := dy) hl (zs := w) (e10 := .un) (e11 := .un) w .un (fun k hk => (wet_mem.mp hk).1) with ⟨a, e9, f⟩ | ⟨a, f⟩
    · have rg : iRg dRng1 (aCons (eCall dLen (aCons (eVarB 3) aNil)) aNil) (roB ss cans week cl dy is w e9 (.ow []) .un) = some (.ok ((List.range' 0 ss.length).map Dn)) := by
        refine rg_ev (ds := [.int (ss.map S.d).length]) rfl ?_
        rw [List.length_map]
        exact rng1_is _ (by omega)
      rcases l2_go (cans := cans) (week := week) (cl := cl) (dy := dy) (c := c) (zs := w) (fun k hk => ⟨fun q => (wet_mem.mp q).2, fun q => wet_mem.mpr ⟨hk, q⟩⟩) hg ss is 0 [] e9 .un rfl rfl hl (by simp; omega) with ⟨r, e9', e11', a2, f2⟩ | ⟨a2, nm, f2⟩
      · refine ⟨nextD week dy r, run_ret ((seq_nx s1).trans ((seq_nx s2).trans ((seq_nx (if_f b3 rfl)).trans ((seq_nx (for_ev (ds := w.map Dn) rfl f)).trans ((seq_nx (ρ' := roB ss cans week cl dy is w e9 (.ow []) .un) rfl).trans ((seq_nx (for_ev rg f2)).trans ?_)))))), .inl ⟨r, rfl, a2, z2, a⟩⟩
        exact ret_ev (tup_ev (n := 2) (a_cons (op_ev (d := .int ((dy : Int) + 1)) (e := .int week) rfl rfl (mod_ev hw)) (a_cons (call_ev (ds := [.lst (r.map D.int)]) rfl rfl) rfl)) (Nat.le_refl 2))
      · exact ⟨.str nm, run_ret ((seq_nx s1).trans ((seq_nx s2).trans ((seq_nx (if_f b3 rfl)).trans ((seq_nx (for_ev (ds := w.map Dn) rfl f)).trans ((seq_nx (ρ' := roB ss cans week cl dy is w e9 (.ow []) .un) rfl).trans (seq_rt (for_ev rg f2))))))), .inr ⟨rfl, .inl a2⟩⟩
    · exact ⟨.non, run_ret ((seq_nx s1).trans ((seq_nx s2).trans ((seq_nx (if_f b3 rfl)).trans (seq_rt (for_ev (ds := w.map Dn) rfl f))))), .inr ⟨rfl, .inr (.inr a)⟩⟩
end
end K06
namespace K06
open PySem PySem.Spec PyProof.Rows L2 Tw
theorem lc_filter {t : Tg} {p : Ro → EM Bool} {f : Ro → EM D} {ρ : Ro} {b : D → Bool} {F : D → D} : ∀ {ds : List D}, (∀ d ∈ ds, ∃ ρ1, t d ρ = some ρ1 ∧ p ρ1 = some (.ok (b d)) ∧ f ρ1 = some (.ok (F d))) → lcD t p f ρ ds = some ((ds.filter b).map F)
  | [], _ => rfl
  | d :: ds, h => by
    obtain ⟨ρ1, h1, h2, h3⟩ := h d List.mem_cons_self
    have ih := lc_filter (t := t) (p := p) (f := f) (ρ := ρ) (b := b) (F := F) (ds := ds) fun d hd => h d (List.mem_cons_of_mem _ hd)
    unfold lcD
    rw [h1]; dsimp only; rw [h2]
    cases hb : b d with
    | true => dsimp only; rw [h3]; dsimp only; rw [ih, List.filter_cons, if_pos hb]; rfl
    | false => dsimp only; rw [ih, List.filter_cons, if_neg (by rw [hb]; decide)]
section
variable {ss : List S} {cans week : Int} {cl dy : Nat} {is : List Int}
theorem mayK_S (hi : okI is (ss.map S.p)) : ∀ k, k < ss.length → mayK (ss.map S.p) is k = mayS ss is k := by
  induction ss generalizing is with
  | nil => intro k hk; simp at hk
  | cons s ss ih =>
    intro k hk
    cases is with
    | nil => exact hi.elim
    | cons i is =>
      cases k with
      | zero =>
        show mayP s.p i = !decide (i < s.rest)
        have h0 := hi.1.1
        unfold mayP S.p
        by_cases z : s.rest < 0
        · rw [if_pos z, decide_eq_false (by omega)]; rfl
        · rw [if_neg z]
          show decide (s.rest ≤ i) = _
          by_cases y : i < s.rest
          · rw [decide_eq_true y, decide_eq_false (by omega)]; rfl
          · rw [decide_eq_false y, decide_eq_true (by omega)]; rfl
      | succ k => exact ih hi.2 k (by simpa using hk)
theorem all_may (hi : okI is (ss.map S.p)) (c : Nat) : (wet ss.length c).all (mayK (ss.map S.p) is) = (wet ss.length c).all (mayS ss is) := by
  rw [Bool.eq_iff_iff, List.all_eq_true, List.all_eq_true]
  constructor <;> intro h k hk
  · rw [← mayK_S hi k (wet_mem.mp hk).1]; exact h k hk
  · rw [mayK_S hi k (wet_mem.mp hk).1]; exact h k hk
abbrev roS (ss : List S) (cans week : Int) (cl : Nat) (st : D) (acc : List D) (e3 e4 e5 e6 : Ent) : Ro := [.fz (spD3 ss cans week cl), .fz st, .ow acc, e3, e4, e5, e6]
abbrev bStp : Ro → Option Fl := (sSeq (sSet 4 (eLc [6] (gN 6) (iRg dRng1 (aCons (eCall dLen (aCons (eOp dIx (eVarB 0) (eC (.int 0))) aNil)) aNil)) (bT (eOp dEq (eOp dAnd (eOp dShr (eVarB 3) (eVarB 6)) (eC (.int 1))) (eC (.int 1)))) (eVar 6)))
      (sSeq (sSet 5 (eCall (dDef 3 [] (dCall m_law_behind)) (aCons (eVar 0) (aCons (eVar 1) (aCons (eVar 4) aNil)))))
      (sIf (bT (e1 (dIs tab_tuple) (eVarB 5)))
        (gdO 2 (sApp 2 (eTup (aCons (eVar 3) (aCons (eVar 5) aNil)))))
        sNil)))
theorem stp_step (hi : okI is (ss.map S.p)) (h8 : ss.length ≤ 8) (hw : 0 < week) (hg : ∀ s ∈ ss, 1 ≤ s.gap) {c : Nat} (hc : c < 2 ^ ss.length) {acc : List D} (ha : acc.length < 1000) {e4 e5 e6 : Ent} :
    ∃ e4' e5', bStp (roS ss cans week cl (stD (Dn dy) is) acc (.fz (Dn c)) e4 e5 e6) = some (.nx (roS ss cans week cl (stD (Dn dy) is) (acc ++ (stepF (ss.map S.p) is cl dy cans week c).toList) (.fz (Dn c)) e4' e5' e6)) := by
  have hl : is.length = ss.length := by rw [okI_len hi, List.length_map]
  let w := wet ss.length c
  let ρ1 := roS ss cans week cl (stD (Dn dy) is) acc (.fz (Dn c)) (.fz (.lst (w.map Dn))) e5 e6
  have hwl : w.length ≤ 8 := Nat.le_trans (wet_len _ _) h8
  have s1 : sSet 4 (eLc [6] (gN 6) (iRg dRng1 (aCons (eCall dLen (aCons (eOp dIx (eVarB 0) (eC (.int 0))) aNil)) aNil)) (bT (eOp dEq (eOp dAnd (eOp dShr (eVarB 3) (eVarB 6)) (eC (.int 1))) (eC (.int 1)))) (eVar 6)) (roS ss cans week cl (stD (Dn dy) is) acc (.fz (Dn c)) e4 e5 e6) = some (.nx ρ1) := by
    refine set_ev (i := 4) (lc_ev (ds := (List.range' 0 ss.length).map Dn) (ys := w.map Dn) ?_ ?_ (by rw [List.length_map]; omega))
    · refine rg_ev (ds := [.int (ss.map S.d).length]) rfl ?_
      rw [List.length_map]
      exact rng1_is _ (by omega)
    · rw [lc_filter (b := fun d => match d with | .int i => c.testBit i.toNat | _ => false) (F := fun d => d)]
      · rw [List.map_id', List.filter_map]
        congr 1
      · intro d hd
        obtain ⟨k, _, rfl⟩ := List.mem_map.mp hd
        exact ⟨roS ss cans week cl (stD (Dn dy) is) acc (.fz (Dn c)) e4 e5 (.fz (Dn k)), rfl, (bit_ev rfl rfl).trans (by show _ = some (Except.ok (c.testBit (k : Int).toNat)); rw [Int.toNat_natCast]), rfl⟩
  obtain ⟨d, hd, hcase⟩ := lb_is (cans := cans) (cl := cl) (dy := dy) hl h8 hw hg hc
  let ρ2 := roS ss cans week cl (stD (Dn dy) is) acc (.fz (Dn c)) (.fz (.lst (w.map Dn))) (.fz d) e6
  have s2 : sSet 5 (eCall (dDef 3 [] (dCall m_law_behind)) (aCons (eVar 0) (aCons (eVar 1) (aCons (eVar 4) aNil)))) ρ1 = some (.nx ρ2) := set_ev (i := 5) (d := d) (call_ev (ds := [spD3 ss cans week cl, stD (Dn dy) is, .lst (w.map Dn)]) rfl ((def_all rfl).trans (call_ret hd)))
  refine ⟨.fz (.lst (w.map Dn)), .fz d, (seq_nx s1).trans ((seq_nx s2).trans ?_)⟩
  have hal : alF (ss.map S.p) is cl dy cans (ss.map S.p).length c = true ↔ (hind cl dy cans (wet ss.length c).length = true → c = 0) ∧ (wet ss.length c).all (mayS ss is) = true := by
    unfold alF
    rw [List.length_map]
    by_cases z : hind cl dy cans (wet ss.length c).length = true
    · rw [if_pos z]
      constructor
      · intro q
        have q' : c = 0 := by simpa using q
        refine ⟨fun _ => q', ?_⟩
        rw [(wet_nil hc).mpr q']; rfl
      · intro q; exact decide_eq_true (q.1 z)
    · rw [if_neg z, all_may hi]
      exact ⟨fun q => ⟨fun y => absurd y z, q⟩, fun q => q.2⟩
  unfold stepF
  rcases hcase with ⟨r, rfl, hb, h1, h2⟩ | ⟨hn, hcs⟩
  · rw [if_pos (hal.mpr ⟨h1, h2⟩), hb, Option.map_some, Option.toList_some]
    exact if_t rfl (app_ev (i := 2) (ds := acc) (d := .tup [Dn c, nextD week dy r]) rfl (tup_ev (n := 2) (a_cons rfl (a_cons rfl rfl)) (Nat.le_refl 2)) (by omega))
  · have hno : (if alF (ss.map S.p) is cl dy cans (ss.map S.p).length c = true then (bhF c 0 is (ss.map S.p)).map fun r => D.tup [Dn c, nextD week dy r] else none) = none := by
      by_cases z : alF (ss.map S.p) is cl dy cans (ss.map S.p).length c = true
      · obtain ⟨q1, q2⟩ := hal.mp z
        rw [if_pos z]
        rcases hcs with y | y | y
        · rw [y]; rfl
        · exact absurd (q1 y.1) y.2
        · rw [q2] at y; cases y
      · rw [if_neg z]
    rw [hno, Option.toList_none, List.append_nil]
    exact if_f (bT_ev (e1_ev (d := d) rfl hn)) rfl
theorem stp_go (hi : okI is (ss.map S.p)) (h8 : ss.length ≤ 8) (hw : 0 < week) (hg : ∀ s ∈ ss, 1 ≤ s.gap) : ∀ (m s : Nat) (acc : List D) (e3 e4 e5 e6 : Ent), s + m ≤ 2 ^ ss.length → acc.length ≤ s →
    ∃ e3' e4' e5', forD (gN 3) bStp ((List.range' s m).map Dn) (roS ss cans week cl (stD (Dn dy) is) acc e3 e4 e5 e6) = some (.nx (roS ss cans week cl (stD (Dn dy) is) (acc ++ (List.range' s m).filterMap (stepF (ss.map S.p) is cl dy cans week)) e3' e4' e5' e6))
  | 0, s, acc, e3, e4, e5, e6, _, _ => ⟨e3, e4, e5, by rw [show List.range' s 0 = [] from rfl, List.filterMap_nil, List.append_nil]; rfl⟩
  | m + 1, s, acc, e3, e4, e5, e6, h, ha => by
    have h256 : 2 ^ ss.length ≤ 256 := Nat.pow_le_pow_right (by decide) h8
    obtain ⟨e4', e5', hs⟩ := stp_step (cans := cans) (week := week) (cl := cl) (dy := dy) hi h8 hw hg (c := s) (by omega) (acc := acc) (by omega) (e4 := e4) (e5 := e5) (e6 := e6)
    have hlen : (acc ++ (stepF (ss.map S.p) is cl dy cans week s).toList).length ≤ s + 1 := by
      rw [List.length_append]
      cases stepF (ss.map S.p) is cl dy cans week s <;> simp <;> omega
    obtain ⟨f3, f4, f5, ih⟩ := stp_go hi h8 hw hg m (s + 1) _ (.fz (Dn s)) e4' e5' e6 (by omega) hlen
    refine ⟨f3, f4, f5, ?_⟩
    rw [List.range'_succ, List.map_cons]
    refine (for_cons (ρ1 := roS ss cans week cl (stD (Dn dy) is) acc (.fz (Dn s)) e4 e5 e6) rfl hs).trans (ih.trans ?_)
    rw [List.append_assoc, List.filterMap_cons]
    cases stepF (ss.map S.p) is cl dy cans week s <;> rfl
theorem steps_is (hi : okI is (ss.map S.p)) (h8 : ss.length ≤ 8) (hw : 0 < week) (hg : ∀ s ∈ ss, 1 ≤ s.gap) : m_law_steps [spD3 ss cans week cl, stD (Dn dy) is] = some (.reto (stepsF (ss.map S.p) is cl dy cans week)) := by
  obtain ⟨e3, e4, e5, hf⟩ := stp_go (cans := cans) (week := week) (cl := cl) (dy := dy) hi h8 hw hg (2 ^ ss.length) 0 [] .un .un .un .un (by omega) (Nat.le_refl _)
  have h256 : 2 ^ ss.length ≤ 256 := Nat.pow_le_pow_right (by decide) h8
  have rg : iRg dRng1 (aCons (eOp dShl (eC (.int 1)) (eCall dLen (aCons (eOp dIx (eVarB 0) (eC (.int 0))) aNil))) aNil) (roS ss cans week cl (stD (Dn dy) is) [] .un .un .un .un) = some (.ok ((List.range' 0 (2 ^ ss.length)).map Dn)) := by
    refine rg_ev (ds := [Dn (2 ^ ss.length)]) (a_cons (op_ev (d := .int 1) (e := .int (ss.map S.d).length) rfl rfl ?_) rfl) (rng1_is _ (by omega))
    rw [List.length_map]
    exact shl_one _ (by omega)
  have s2 : sSetO 2 (eLst aNil) (startE 7 [spD3 ss cans week cl, stD (Dn dy) is]) = some (.nx (roS ss cans week cl (stD (Dn dy) is) [] .un .un .un .un)) := rfl
  unfold stepsF
  rw [List.length_map]
  exact congrArg outOf ((seq_nx s2).trans ((seq_nx (for_ev rg hf)).trans rfl))
end
end K06
namespace K06
open PySem PySem.Spec PyProof.Rows L2 Tw
/-! ### all states -/
abbrev fD (is : List Int) : D := .tup (is.map D.int)
def ext (g : Nat) (is : List Int) : List (List Int) := (List.range' 0 g).map fun (f : Nat) => is ++ [(f : Int)]
theorem ext_len (g : Nat) (is : List Int) : (ext g is).length = g := by unfold ext; rw [List.length_map, List.length_range']
def sinceGo : List (List Int) → List S → List (List Int)
  | L, [] => L
  | L, s :: ss => sinceGo (L.flatMap (ext s.gap.toNat)) ss
theorem flat_len (g : Nat) : ∀ L : List (List Int), (L.flatMap (ext g)).length = L.length * g
  | [] => by simp
  | is :: L => by rw [List.flatMap_cons, List.length_append, flat_len g L, ext_len, List.length_cons, Nat.succ_mul]; omega
def prodS : Nat → List S → Nat
  | n, [] => n
  | n, s :: ss => prodS (n * s.gap.toNat) ss
theorem sinceGo_len : ∀ (ss : List S) (L : List (List Int)), (sinceGo L ss).length = prodS L.length ss
  | [], L => rfl
  | s :: ss, L => by show (sinceGo (L.flatMap (ext s.gap.toNat)) ss).length = prodS (L.length * s.gap.toNat) ss; rw [sinceGo_len ss, flat_len]
theorem prodS_ge : ∀ (ss : List S) (n : Nat), (∀ s ∈ ss, 1 ≤ s.gap) → n ≤ prodS n ss
  | [], n, _ => Nat.le_refl _
  | s :: ss, n, h => by
    have h1 := h s List.mem_cons_self
    have := prodS_ge ss (n * s.gap.toNat) fun t ht => h t (List.mem_cons_of_mem _ ht)
    have h2 : n * 1 ≤ n * s.gap.toNat := Nat.mul_le_mul_left _ (by omega)
    show n ≤ prodS (n * s.gap.toNat) ss
    omega
theorem okI_app : ∀ {is : List Int} {pre : List P} {f : Int} {p : P}, okI is pre → 0 ≤ f ∧ f < p.gap → okI (is ++ [f]) (pre ++ [p])
  | [], [], f, p, _, h => ⟨h, trivial⟩
  | i :: is, q :: pre, f, p, h, hf => ⟨h.1, okI_app h.2 hf⟩
theorem sinceGo_ok : ∀ (ss : List S) (L : List (List Int)) (pre : List P), (∀ is ∈ L, okI is pre) → ∀ is ∈ sinceGo L ss, okI is (pre ++ ss.map S.p)
  | [], L, pre, h, is, hi => by rw [List.map_nil, List.append_nil]; exact h is hi
  | s :: ss, L, pre, h, is, hi => by
    have := sinceGo_ok ss (L.flatMap (ext s.gap.toNat)) (pre ++ [s.p]) (fun js hj => by
      obtain ⟨ks, hk, hx⟩ := List.mem_flatMap.mp hj
      obtain ⟨f, hf, rfl⟩ := List.mem_map.mp hx
      have := (List.mem_range'_1.mp hf).2
      exact okI_app (h ks hk) ⟨by omega, by show (f : Int) < s.gap; omega⟩) is hi
    rw [List.append_assoc] at this
    exact this
theorem sinceGo_head : ∀ (ss : List S) (L : List (List Int)) (z : List Int), (∀ s ∈ ss, 1 ≤ s.gap) → L.head? = some z → (sinceGo L ss).head? = some (z ++ List.replicate ss.length 0)
  | [], L, z, _, h => by
    show L.head? = some (z ++ [])
    rw [List.append_nil]; exact h
  | s :: ss, L, z, hg, h => by
    obtain ⟨T, rfl⟩ : ∃ T, L = z :: T := by
      cases L with
      | nil => cases h
      | cons a T => cases h; exact ⟨T, rfl⟩
    have h1 := hg s List.mem_cons_self
    obtain ⟨m, hm⟩ : ∃ m, s.gap.toNat = m + 1 := ⟨s.gap.toNat - 1, by omega⟩
    have := sinceGo_head ss ((z :: T).flatMap (ext s.gap.toNat)) (z ++ [0]) (fun t ht => hg t (List.mem_cons_of_mem _ ht)) (by
      rw [List.flatMap_cons, hm]
      unfold ext
      rw [List.range'_succ]
      rfl)
    rw [List.append_assoc] at this
    exact this
section
variable {ss : List S} {cans : Int} {cl week : Nat}
abbrev roT (sp : D) (e1 e2 e3 e4 e5 e6 e7 e8 : Ent) : Ro := [.fz sp, e1, e2, e3, e4, e5, e6, e7, e8, .un]
abbrev bX : Ro → Option Fl := gdO 5 (sExt 5 (eLc [9] (gN 9) (iRg dRng1 (aCons (eVarB 3) aNil)) bYes (eOp dAddU (eVarB 6) (eTup (aCons (eVar 9) aNil)))))
theorem extend_ev {i : Nat} {f : Ro → EM D} {ρ : Ro} {ds es : List D} (h0 : ρ[i]? = some (.ow ds)) (h : f ρ = some (.ok (.lst es))) (hl : ds.length + es.length ≤ 1000000) : gdO i (sExt i f) ρ = some (.nx (ρ.set i (.ow (ds ++ es)))) := by
  unfold gdO isOw
  rw [h0]
  dsimp only
  rw [if_pos rfl]
  unfold sExt
  rw [h, toS_ok, h0]
  dsimp only
  rw [if_pos (by have := sizeLine_eq; omega)]
theorem add_tup (xs ys : List D) (h : xs.length + ys.length ≤ 1000) : dAddU (.tup xs) (.tup ys) = some (.ok (.tup (xs ++ ys))) := by
  show (if _ then _ else _) = _
  rw [if_pos (by have := sizeLine_eq; omega)]
  rfl
theorem x_go {sp e1 e2 e4 e7 e8 : _} {g : Nat} (hg : g ≤ 60) : ∀ (L : List (List Int)) (acc : List (List Int)) (e6 : Ent), (∀ is ∈ L, is.length ≤ 900) → acc.length + L.length * g ≤ 100000 →
    ∃ e6', forD (gN 6) bX (L.map fD) (roT sp e1 e2 (.fz (Dn g)) e4 (.ow (acc.map fD)) e6 e7 e8) = some (.nx (roT sp e1 e2 (.fz (Dn g)) e4 (.ow ((acc ++ L.flatMap (ext g)).map fD)) e6' e7 e8))
  | [], acc, e6, _, _ => ⟨e6, by rw [List.flatMap_nil, List.append_nil]; rfl⟩
  | is :: L, acc, e6, hk, hl => by
    rw [List.length_cons, Nat.succ_mul] at hl
    have hi := hk is List.mem_cons_self
    obtain ⟨e6', ih⟩ := x_go (sp := sp) (e1 := e1) (e2 := e2) (e4 := e4) (e7 := e7) (e8 := e8) hg L (acc ++ ext g is) (.fz (fD is)) (fun js hj => hk js (List.mem_cons_of_mem _ hj)) (by rw [List.length_append, ext_len]; omega)
    refine ⟨e6', ?_⟩
    rw [List.map_cons]
    refine (for_cons (ρ1 := roT sp e1 e2 (.fz (Dn g)) e4 (.ow (acc.map fD)) (.fz (fD is)) e7 e8) (ρ2 := roT sp e1 e2 (.fz (Dn g)) e4 (.ow ((acc ++ ext g is).map fD)) (.fz (fD is)) e7 e8) rfl ?_).trans (ih.trans ?_)
    · rw [List.map_append]
      refine extend_ev (i := 5) (ds := acc.map fD) (es := (ext g is).map fD) rfl ?_ (by rw [List.length_map, List.length_map, ext_len]; omega)
      refine lc_ev (ds := (List.range' 0 g).map Dn) (rg_ev (ds := [Dn g]) rfl (rng1_is g (by omega))) ?_ (by rw [List.length_map, ext_len]; omega)
      rw [lc_map (F := fun d => .tup (is.map D.int ++ [d]))]
      · unfold ext
        rw [List.map_map, List.map_map]
        congr 1
        apply List.map_congr_left
        intro f _
        show D.tup (is.map D.int ++ [Dn f]) = .tup ((is ++ [(f : Int)]).map D.int)
        rw [List.map_append]; rfl
      · intro d hd
        obtain ⟨f, _, rfl⟩ := List.mem_map.mp hd
        refine ⟨roT sp e1 e2 (.fz (Dn g)) e4 (.ow (acc.map fD)) (.fz (fD is)) e7 e8 |>.set 9 (.fz (Dn f)), rfl, rfl, op_ev (d := .tup (is.map D.int)) (e := .tup [Dn f]) rfl (tup_ev (n := 1) (a_cons rfl rfl) (Nat.le_refl 1)) (add_tup _ _ (by rw [List.length_map, List.length_singleton]; omega))⟩
    · rw [List.append_assoc, List.flatMap_cons]
abbrev bY : Ro → Option Fl := (sSeq (sSetO 5 (eLst aNil))
      (sSeq (frz 1 (sFor (gN 6) (iOf (eVar 1))
        bX))
      (sMove 1 5)))
theorem y_go {sp : D} : ∀ (s1 : List S) (L : List (List Int)) (e2 e3 e4 e6 : Ent), (∀ s ∈ s1, 1 ≤ s.gap ∧ s.gap ≤ 60) → (∀ is ∈ L, is.length + s1.length ≤ 900) → prodS L.length s1 ≤ 100000 →
    ∃ e2' e3' e4' e6', forD (gT (gsC (gN 2) (gsC (gN 3) (gsC (gN 4) gs0))) 3) bY (s1.map S.d) (roT sp (.ow (L.map fD)) e2 e3 e4 .un e6 .un .un) = some (.nx (roT sp (.ow ((sinceGo L s1).map fD)) e2' e3' e4' .un e6' .un .un))
  | [], L, e2, e3, e4, e6, _, _, _ => ⟨e2, e3, e4, e6, rfl⟩
  | s :: s1, L, e2, e3, e4, e6, hg, hk, hl => by
    have h1 := hg s List.mem_cons_self
    have hg1 : ∀ t ∈ s1, 1 ≤ t.gap ∧ t.gap ≤ 60 := fun t ht => hg t (List.mem_cons_of_mem _ ht)
    have hl' : prodS (L.length * s.gap.toNat) s1 ≤ 100000 := hl
    have hb := prodS_ge s1 (L.length * s.gap.toNat) fun t ht => (hg1 t ht).1
    have hgn : (.int s.gap : D) = Dn s.gap.toNat := by
      show D.int s.gap = D.int (s.gap.toNat : Int)
      rw [Int.toNat_of_nonneg (by omega)]
    obtain ⟨e6a, hx⟩ := x_go (sp := sp) (e1 := .fz (.lst (L.map fD))) (e2 := .fz (.str s.nm)) (e4 := .fz (.int s.rest)) (e7 := .un) (e8 := .un) (g := s.gap.toNat) (by omega) L [] e6 (fun is hi => by have := hk is hi; simp only [List.length_cons] at this; omega) (by simp; omega)
    rw [List.nil_append, ← hgn] at hx
    obtain ⟨f2, f3, f4, f6, ih⟩ := y_go (sp := sp) s1 (L.flatMap (ext s.gap.toNat)) (.fz (.str s.nm)) (.fz (.int s.gap)) (.fz (.int s.rest)) e6a hg1 (fun is hi => by
      obtain ⟨ks, hks, hx⟩ := List.mem_flatMap.mp hi
      obtain ⟨f, _, rfl⟩ := List.mem_map.mp hx
      have := hk ks hks
      simp only [List.length_cons, List.length_append, List.length_nil] at this ⊢
      omega) (by rw [flat_len]; exact hl')
    refine ⟨f2, f3, f4, f6, ?_⟩
    rw [List.map_cons]
    refine (for_cons (ρ1 := roT sp (.ow (L.map fD)) (.fz (.str s.nm)) (.fz (.int s.gap)) (.fz (.int s.rest)) .un e6 .un .un) (ρ2 := roT sp (.ow ((L.flatMap (ext s.gap.toNat)).map fD)) (.fz (.str s.nm)) (.fz (.int s.gap)) (.fz (.int s.rest)) .un e6a .un .un) rfl ?_).trans ih
    refine (seq_nx (ρ' := roT sp (.ow (L.map fD)) (.fz (.str s.nm)) (.fz (.int s.gap)) (.fz (.int s.rest)) (.ow ([].map fD)) e6 .un .un) rfl).trans ((seq_nx (ρ' := roT sp (.fz (.lst (L.map fD))) (.fz (.str s.nm)) (.fz (.int s.gap)) (.fz (.int s.rest)) (.ow ((L.flatMap (ext s.gap.toNat)).map fD)) e6a .un .un) ?_).trans rfl)
    exact (for_ev (ds := L.map fD) rfl hx)
/-- the states in the order of their numbers -/
def statesF (ss : List S) (week : Nat) : List D := (List.range' 0 week).flatMap fun d => (sinceGo [[]] ss).map fun is => stD (Dn d) is
abbrev bZ : Ro → Option Fl := (frz 1 (gdO 7 (sExt 7 (eLc [6] (gN 6) (iOf (eVar 1)) bYes (eTup (aCons (eVar 8) (aCons (eVar 6) aNil)))))))
theorem z_go {sp e2 e3 e4 e5 e6 : _} {L : List (List Int)} : ∀ (m s : Nat) (acc : List D) (e1 e8 : Ent), (e1 = .ow (L.map fD) ∨ e1 = .fz (.lst (L.map fD))) → acc.length + m * L.length ≤ 100000 →
    ∃ e1' e8', forD (gN 8) bZ ((List.range' s m).map Dn) (roT sp e1 e2 e3 e4 e5 e6 (.ow acc) e8) = some (.nx (roT sp e1' e2 e3 e4 e5 e6 (.ow (acc ++ (List.range' s m).flatMap fun d => L.map fun is => stD (Dn d) is)) e8'))
  | 0, s, acc, e1, e8, _, _ => ⟨e1, e8, by rw [show List.range' s 0 = [] from rfl, List.flatMap_nil, List.append_nil]; rfl⟩
  | m + 1, s, acc, e1, e8, he, hl => by
    rw [Nat.succ_mul] at hl
    obtain ⟨f1, f8, ih⟩ := z_go (sp := sp) (e2 := e2) (e3 := e3) (e4 := e4) (e5 := e5) (e6 := e6) (L := L) m (s + 1) (acc ++ L.map fun is => stD (Dn s) is) (.fz (.lst (L.map fD))) (.fz (Dn s)) (.inr rfl) (by rw [List.length_append, List.length_map]; omega)
    refine ⟨f1, f8, ?_⟩
    rw [List.range'_succ, List.map_cons]
    refine (for_cons (ρ1 := roT sp e1 e2 e3 e4 e5 e6 (.ow acc) (.fz (Dn s))) (ρ2 := roT sp (.fz (.lst (L.map fD))) e2 e3 e4 e5 e6 (.ow (acc ++ L.map fun is => stD (Dn s) is)) (.fz (Dn s))) rfl ?_).trans (ih.trans ?_)
    · have core : gdO 7 (sExt 7 (eLc [6] (gN 6) (iOf (eVar 1)) bYes (eTup (aCons (eVar 8) (aCons (eVar 6) aNil))))) (roT sp (.fz (.lst (L.map fD))) e2 e3 e4 e5 e6 (.ow acc) (.fz (Dn s))) = some (.nx (roT sp (.fz (.lst (L.map fD))) e2 e3 e4 e5 e6 (.ow (acc ++ L.map fun is => stD (Dn s) is)) (.fz (Dn s)))) := by
        refine extend_ev (i := 7) (ds := acc) (es := L.map fun is => stD (Dn s) is) rfl ?_ (by rw [List.length_map]; omega)
        refine lc_ev (ds := L.map fD) rfl ?_ (by rw [List.length_map]; omega)
        rw [lc_map (F := fun d => .tup [Dn s, d])]
        · rw [List.map_map]; rfl
        · intro d _
          exact ⟨_, rfl, rfl, tup_ev (n := 2) (a_cons rfl (a_cons rfl rfl)) (Nat.le_refl 2)⟩
      rcases he with rfl | rfl
      · exact core
      · exact core
    · rw [List.append_assoc, List.flatMap_cons]
theorem states_is (hg : ∀ s ∈ ss, 1 ≤ s.gap ∧ s.gap ≤ 60) (h8 : ss.length ≤ 8) (hw : week ≤ 14) (hz : week * prodS 1 ss ≤ 20000) (hz2 : prodS 1 ss ≤ 20000) : m_law_states [spD3 ss cans week cl] = some (.reto (statesF ss week)) := by
  obtain ⟨e2, e3, e4, e6, hy⟩ := y_go (sp := spD3 ss cans week cl) ss [[]] .un .un .un .un hg (fun is hi => by rw [List.mem_singleton.mp hi]; simp; omega) (by show prodS 1 ss ≤ _; omega)
  obtain ⟨f1, f8, hzz⟩ := z_go (sp := spD3 ss cans week cl) (e2 := e2) (e3 := e3) (e4 := e4) (e5 := .un) (e6 := e6) (L := sinceGo [[]] ss) week 0 [] (.ow ((sinceGo [[]] ss).map fD)) .un (.inl rfl) (by
    rw [sinceGo_len]
    show 0 + week * prodS 1 ss ≤ _
    omega)
  have s1 : sSetO 1 (eLst (aCons (eTup aNil) aNil)) (startE 10 [spD3 ss cans week cl]) = some (.nx (roT (spD3 ss cans week cl) (.ow ([[]].map fD)) .un .un .un .un .un .un .un)) := rfl
  have s3 : sSetO 7 (eLst aNil) (roT (spD3 ss cans week cl) (.ow ((sinceGo [[]] ss).map fD)) e2 e3 e4 .un e6 .un .un) = some (.nx (roT (spD3 ss cans week cl) (.ow ((sinceGo [[]] ss).map fD)) e2 e3 e4 .un e6 (.ow []) .un)) := rfl
  exact congrArg outOf ((seq_nx s1).trans ((seq_nx (for_ev (ds := ss.map S.d) rfl hy)).trans ((seq_nx s3).trans ((seq_nx (for_ev (rg_ev (ds := [Dn week]) rfl (rng1_is week (by omega))) hzz)).trans rfl))))
theorem states_mem {d : D} (h : d ∈ statesF ss week) : ∃ (dy : Nat) (is : List Int), d = stD (Dn dy) is ∧ dy < week ∧ okI is (ss.map S.p) := by
  obtain ⟨dy, hd, hm⟩ := List.mem_flatMap.mp h
  obtain ⟨is, hi, rfl⟩ := List.mem_map.mp hm
  refine ⟨dy, is, rfl, by have := (List.mem_range'_1.mp hd).2; omega, ?_⟩
  have := sinceGo_ok ss [[]] [] (fun js hj => by rw [List.mem_singleton.mp hj]; exact trivial) is hi
  rwa [List.nil_append] at this
theorem states_head (hw : 1 ≤ week) (hg : ∀ s ∈ ss, 1 ≤ s.gap) : (statesF ss week)[0]? = some (stD (Dn 0) (List.replicate ss.length 0)) := by
  obtain ⟨m, rfl⟩ : ∃ m, week = m + 1 := ⟨week - 1, by omega⟩
  have h := sinceGo_head ss [[]] [] hg rfl
  rw [List.nil_append] at h
  unfold statesF
  rw [List.range'_succ, List.flatMap_cons]
  generalize sinceGo [[]] ss = L at *
  cases L with
  | nil => cases h
  | cons a T => cases h; rfl
end
end K06
namespace K06
open PySem PySem.Spec PyProof.Rows L2 Tw
/-! ### a garden told plainly, and made -/
def namesS : List Str → List (Str × Int) → Option (List (Str × Int))
  | [], ks => some ks
  | s :: r, ks => if hasN ks s = true then none else namesS r (ks ++ [(s, (ks.length : Int))])
theorem namesGo_nm : ∀ (ps : List P) (ks : List (Str × Int)), namesGo (ps.map P.d) ks = some (namesS (ps.map (·.nm)) ks)
  | [], ks => rfl
  | p :: ps, ks => by
    rw [List.map_cons, List.map_cons]
    unfold namesGo namesS
    rw [p.nm_is]
    dsimp only
    split
    · rfl
    · exact namesGo_nm ps _
structure Sok (ss : List S) (cans : Int) (wk cl : Nat) : Prop where
  n1 : 1 ≤ ss.length
  n8 : ss.length ≤ 8
  g : ∀ s ∈ ss, 1 ≤ s.gap ∧ s.gap ≤ 60 ∧ -1 ≤ s.rest ∧ s.rest < s.gap
  nm : ∀ s ∈ ss, m_is_name [.str s.nm] = some (.ret (.bl true))
  ks : ∃ ks, namesS (ss.map (·.nm)) [] = some ks
  cn : 0 ≤ cans ∧ cans ≤ 8
  w : 1 ≤ wk ∧ wk ≤ 14
  c : cl < 2 ^ wk
  z : wk * prodS 1 ss ≤ 20000
theorem prodS_mul : ∀ (ss : List S) (n : Nat), prodS n ss = n * prodS 1 ss
  | [], n => by show n = n * 1; omega
  | s :: ss, n => by
    show prodS (n * s.gap.toNat) ss = n * prodS (1 * s.gap.toNat) ss
    rw [prodS_mul ss (n * s.gap.toNat), prodS_mul ss (1 * s.gap.toNat), Nat.one_mul, Nat.mul_assoc]
theorem prodG_S : ∀ (ss : List S) (n : Nat), (∀ s ∈ ss, 1 ≤ s.gap) → prodG (n : Int) (ss.map S.p) = (prodS n ss : Nat)
  | [], n, _ => rfl
  | s :: ss, n, h => by
    have h1 := h s List.mem_cons_self
    show prodG ((n : Int) * s.gap) (ss.map S.p) = (prodS (n * s.gap.toNat) ss : Nat)
    rw [← prodG_S ss (n * s.gap.toNat) fun t ht => h t (List.mem_cons_of_mem _ ht)]
    congr 1
    rw [Int.natCast_mul, Int.toNat_of_nonneg (by omega)]
section
variable {ss : List S} {cans : Int} {wk cl : Nat}
theorem Sok.gap (h : Sok ss cans wk cl) : Gap (ss.map S.p) := fun p hp => by
  obtain ⟨s, hs, rfl⟩ := List.mem_map.mp hp
  have := h.g s hs
  exact ⟨this.1, this.2.1⟩
theorem Sok.g1 (h : Sok ss cans wk cl) : ∀ s ∈ ss, 1 ≤ s.gap := fun s hs => (h.g s hs).1
theorem Sok.size (h : Sok ss cans wk cl) : prodG (wk : Int) (ss.map S.p) = ((wk * prodS 1 ss : Nat) : Int) := by rw [prodG_S ss wk h.g1, prodS_mul]
theorem Sok.z2 (h : Sok ss cans wk cl) : prodS 1 ss ≤ 20000 := by
  have h1 := h.z
  have h2 := h.w.1
  have : 1 * prodS 1 ss ≤ wk * prodS 1 ss := Nat.mul_le_mul_right _ h2
  omega
abbrev bGd : Ro → Option Fl := (sIf (bT (eOp dLt (eVarB 4) (eC (.int 0))))
        (gdO 1 (sApp 1 (eCall (dDef 2 [] (dMake mi_Pot .pot)) (aCons (eVar 2) (aCons (eVar 3) aNil)))))
        (gdO 1 (sApp 1 (eCall (dDef 3 [] (dMake mi_Cactus .cactus)) (aCons (eVar 2) (aCons (eVar 3) (aCons (eVar 4) aNil)))))))
theorem gd_go {sp : D} : ∀ (s1 : List S) (acc : List D) (e2 e3 e4 : Ent), (∀ s ∈ s1, 1 ≤ s.gap ∧ s.gap ≤ 60 ∧ -1 ≤ s.rest ∧ s.rest < s.gap) → (∀ s ∈ s1, m_is_name [.str s.nm] = some (.ret (.bl true))) → acc.length + s1.length ≤ 1000 →
    ∃ e2' e3' e4', forD (gT (gsC (gN 2) (gsC (gN 3) (gsC (gN 4) gs0))) 3) bGd (s1.map S.d) [.fz sp, .ow acc, e2, e3, e4] = some (.nx [.fz sp, .ow (acc ++ (s1.map S.p).map P.d), e2', e3', e4'])
  | [], acc, e2, e3, e4, _, _, _ => ⟨e2, e3, e4, by show _ = some (Fl.nx [.fz sp, .ow (acc ++ []), e2, e3, e4]); rw [List.append_nil]; rfl⟩
  | s :: s1, acc, e2, e3, e4, hg, hn, hl => by
    simp only [List.length_cons] at hl
    have g1 := hg s List.mem_cons_self
    have n1 := hn s List.mem_cons_self
    obtain ⟨f2, f3, f4, ih⟩ := gd_go (sp := sp) s1 (acc ++ [s.p.d]) (.fz (.str s.nm)) (.fz (.int s.gap)) (.fz (.int s.rest)) (fun t ht => hg t (List.mem_cons_of_mem _ ht)) (fun t ht => hn t (List.mem_cons_of_mem _ ht)) (by simp; omega)
    refine ⟨f2, f3, f4, ?_⟩
    rw [List.map_cons, List.map_cons, List.map_cons]
    let ρ1 : Ro := [.fz sp, .ow acc, .fz (.str s.nm), .fz (.int s.gap), .fz (.int s.rest)]
    have hc : bT (eOp dLt (eVarB 4) (eC (.int 0))) ρ1 = some (.ok (decide (s.rest < 0))) := bT_ev (op_ev (d := .int s.rest) (e := .int 0) rfl rfl rfl)
    have hs : bGd ρ1 = some (.nx [.fz sp, .ow (acc ++ [s.p.d]), .fz (.str s.nm), .fz (.int s.gap), .fz (.int s.rest)]) := by
      by_cases z : s.rest < 0
      · rw [decide_eq_true z] at hc
        have : s.p.d = .obj .pot [.str s.nm, .int s.gap] := by unfold S.p P.d; rw [if_pos z]
        rw [this]
        exact if_t hc (app_ev (i := 1) (ds := acc) (d := .obj .pot [.str s.nm, .int s.gap]) rfl (call_ev (ds := [.str s.nm, .int s.gap]) rfl ((def_all rfl).trans (make_ok (pot_ok n1 ⟨g1.1, g1.2.1⟩)))) (by omega))
      · rw [decide_eq_false z] at hc
        have : s.p.d = .obj .cactus [.str s.nm, .int s.gap, .int s.rest] := by unfold S.p P.d; rw [if_neg z]
        rw [this]
        exact if_f hc (app_ev (i := 1) (ds := acc) (d := .obj .cactus [.str s.nm, .int s.gap, .int s.rest]) rfl (call_ev (ds := [.str s.nm, .int s.gap, .int s.rest]) rfl ((def_all rfl).trans (make_ok (cac_ok n1 ⟨g1.1, g1.2.1⟩ ⟨by omega, by omega⟩)))) (by omega))
    refine (for_cons (ρ1 := ρ1) rfl hs).trans (ih.trans ?_)
    rw [List.append_assoc]; rfl
theorem closed_z (h : cl < 2 ^ wk) : (cl : Int) / 2 ^ ((wk : Int).toNat) = 0 := by
  rw [Int.toNat_natCast]
  have : ((cl / 2 ^ wk : Nat) : Int) = 0 := by rw [Nat.div_eq_of_lt h]; rfl
  rw [← this]
  norm_cast
theorem garden_is (h : Sok ss cans wk cl) : ∃ ks, m_law_garden [spD3 ss cans wk cl] = some (.ret (gdD (ss.map S.p) cans wk cl ks)) := by
  obtain ⟨ks, hk⟩ := h.ks
  refine ⟨ks, ?_⟩
  have hks : namesGo ((ss.map S.p).map P.d) [] = some (some ks) := by
    rw [namesGo_nm, List.map_map]
    exact congrArg some hk
  have hgo := garden_ok (ps := ss.map S.p) (cans := cans) (week := wk) (closed := cl) (ks := ks) (by rw [List.length_map]; exact h.n1) (by rw [List.length_map]; exact h.n8) h.cn ⟨by have := h.w.1; omega, by have := h.w.2; omega⟩ (by omega) (closed_z h.c) hks h.gap (by rw [h.size]; have := h.z; omega)
  obtain ⟨e2, e3, e4, hf⟩ := gd_go (sp := spD3 ss cans wk cl) ss [] .un .un .un h.g h.nm (by have := h.n8; simp; omega)
  rw [List.nil_append] at hf
  have s1 : sSetO 1 (eLst aNil) (startE 5 [spD3 ss cans wk cl]) = some (.nx [.fz (spD3 ss cans wk cl), .ow [], .un, .un, .un]) := rfl
  refine run_ret ((seq_nx s1).trans ((seq_nx (for_ev (ds := ss.map S.d) rfl hf)).trans ?_))
  show sRet _ [.fz (spD3 ss cans wk cl), .fz (.lst ((ss.map S.p).map P.d)), e2, e3, e4] = _
  exact ret_ev (call_ev (ds := [.lst ((ss.map S.p).map P.d), .int cans, .int wk, .int cl]) rfl ((def_all rfl).trans (make_ok hgo)))
end
end K06
namespace K06
open PySem PySem.Spec PyProof.Rows L2 Tw
/-! ### the spec by a script -/
def nm5 (j : Nat) : Str := ["ivy", "iv", "fern", "fernz", "a"].getD j ""
theorem nm5_ok (j : Nat) (h : j < 5) : m_is_name [.str (nm5 j)] = some (.ret (.bl true)) := by
  match j, h with
  | 0, _ => kernel_rfl
  | 1, _ => kernel_rfl
  | 2, _ => kernel_rfl
  | 3, _ => kernel_rfl
  | 4, _ => kernel_rfl
theorem nm5_ix (j : Nat) (h : j < 5) : dIx (.tup [.str "ivy", .str "iv", .str "fern", .str "fernz", .str "a"]) (.int j) = some (.ok (.str (nm5 j))) := by
  match j, h with
  | 0, _ => rfl
  | 1, _ => rfl
  | 2, _ => rfl
  | 3, _ => rfl
  | 4, _ => rfl
def nms (r n : Nat) : List Str := (List.range' 0 n).map fun k => nm5 ((r + k) % 5)
theorem nms_ok (r n : Nat) (hr : r < 5) (hn : n ≤ 3) : ∃ ks, namesS (nms r n) [] = some ks := by
  have : ∀ r : Fin 5, ∀ n : Fin 4, (namesS (nms r.val n.val) []).isSome = true := by decide +kernel
  exact Option.isSome_iff_exists.mp (this ⟨r, hr⟩ ⟨n, by omega⟩)
theorem cellN {ρ : Ro} {f g : Ro → EM D} {ns : List Int} {k : Nat} (h1 : f ρ = some (.ok (.scr ns))) (h2 : g ρ = some (.ok (.int k))) : eCall (dDef 2 [] (dCall m_law_cell_at)) (aCons f (aCons g aNil)) ρ = some (.ok (.int (ns.getD k 0))) :=
  call_ev (ds := [.scr ns, .int k]) (a_cons h1 (a_cons h2 rfl)) ((def_all rfl).trans (call_ret (cell_is ns k)))
theorem modE {f : Ro → EM D} {ρ : Ro} {i j : Int} (h : f ρ = some (.ok (.int i))) (hj : 0 < j) : eOp dMod f (eC (.int j)) ρ = some (.ok (.int (i % j))) := op_ev h rfl (mod_ev hj)
theorem divE {f : Ro → EM D} {ρ : Ro} {i j : Int} (h : f ρ = some (.ok (.int i))) (hj : 0 < j ∧ j < 1073741824) : eOp dDiv f (eC (.int j)) ρ = some (.ok (.int (i / j))) := op_ev h rfl (div_ev hj)
theorem eqE {f : Ro → EM D} {ρ : Ro} {i j : Int} (h : f ρ = some (.ok (.int i))) : bT (eOp dEq f (eC (.int j))) ρ = some (.ok (decide (i = j))) := bT_ev (op_ev h rfl rfl)
abbrev roP (ns : List Int) (first : Nat) (e2 e3 e4 e5 e6 e7 e8 e9 e10 e11 e12 e13 : Ent) : Ro := [.fz (.scr ns), .fz (Dn first), e2, e3, e4, e5, e6, e7, e8, e9, e10, e11, e12, e13]
abbrev nmT : D := .tup [.str "ivy", .str "iv", .str "fern", .str "fernz", .str "a"]
abbrev bSp : Ro → Option Fl := (sSeq (sSet 10 (eOp dAddU (eC (.int 1)) (eCall (dDef 3 [] (dCall m_law_draw)) (aCons (eVar 3) (aCons (eVar 9) (aCons (eVar 6) aNil))))))
      (sSeq (sSet 11 (e1 dNeg (eC (.int 1))))
      (sSeq (sIf (bT (eOp dEq (eCall (dDef 3 [] (dCall m_law_draw)) (aCons (eVar 3) (aCons (eOp dAddU (eVarB 9) (eC (.int 4))) (aCons (eC (.int 4)) aNil)))) (eC (.int 0))))
        (sSet 11 (eCall (dDef 3 [] (dCall m_law_draw)) (aCons (eVar 3) (aCons (eOp dAddU (eVarB 9) (eC (.int 5))) (aCons (eVar 10) aNil)))))
        sNil)
      (gdO 8 (sApp 8 (eTup (aCons (eOp dIx (eVarB 7) (eOp dMod (eOp dAddU (eOp dDiv (eVarB 2) (eC (.int 54))) (eVarB 9)) (eC (.int 5)))) (aCons (eVar 10) (aCons (eVar 11) aNil)))))))))
def r5 (cell : Int) : Nat := (cell / 54 % 5).toNat
theorem r5_lt (c : Int) : r5 c < 5 := by unfold r5; have := Int.emod_lt_of_pos (c / 54) (show (0 : Int) < 5 by decide); have := Int.emod_nonneg (c / 54) (show (5 : Int) ≠ 0 by decide); omega
theorem r5_add (c : Int) (k : Nat) : (c / 54 + k) % 5 = (((r5 c + k) % 5 : Nat) : Int) := by
  unfold r5
  have := Int.emod_nonneg (c / 54) (show (5 : Int) ≠ 0 by decide)
  omega
theorem sp_step {ns : List Int} {first k : Nat} {cell other most : Int} {third e4 e5 e10 e11 e12 e13 : Ent} {acc : List D} (hm : 0 < most) (hl : acc.length < 1000) :
    ∃ g r f10 f11, (1 ≤ g ∧ g ≤ most ∧ -1 ≤ r ∧ r < g) ∧ bSp (roP ns first (.fz (.int cell)) (.fz (.int other)) e4 e5 (.fz (.int most)) (.fz nmT) (.ow acc) (.fz (Dn k)) e10 e11 e12 e13) =
      some (.nx (roP ns first (.fz (.int cell)) (.fz (.int other)) e4 e5 (.fz (.int most)) (.fz nmT) (.ow (acc ++ [(S.mk (nm5 ((r5 cell + k) % 5)) g r).d])) (.fz (Dn k)) f10 f11 e12 e13)) := by
  obtain ⟨v, v0, v1, hv⟩ := draw_is other k most hm
  obtain ⟨u, u0, u1, hu⟩ := draw_is other (k + 4) 4 (by decide)
  obtain ⟨t, t0, t1, ht⟩ := draw_is other (k + 5) (1 + v) (by omega)
  let ρ := fun (a b : Ent) => roP ns first (.fz (.int cell)) (.fz (.int other)) e4 e5 (.fz (.int most)) (.fz nmT) (.ow acc) (.fz (Dn k)) a b e12 e13
  have s1 : sSet 10 (eOp dAddU (eC (.int 1)) (eCall (dDef 3 [] (dCall m_law_draw)) (aCons (eVar 3) (aCons (eVar 9) (aCons (eVar 6) aNil))))) (ρ e10 e11) = some (.nx (ρ (.fz (.int (1 + v))) e11)) :=
    set_ev (i := 10) (op_ev (d := .int 1) (e := .int v) rfl (call_ev (ds := [.int other, Dn k, .int most]) rfl hv) rfl)
  have s2 : sSet 11 (e1 dNeg (eC (.int 1))) (ρ (.fz (.int (1 + v))) e11) = some (.nx (ρ (.fz (.int (1 + v))) (.fz (.int (-1))))) := rfl
  have hc : bT (eOp dEq (eCall (dDef 3 [] (dCall m_law_draw)) (aCons (eVar 3) (aCons (eOp dAddU (eVarB 9) (eC (.int 4))) (aCons (eC (.int 4)) aNil)))) (eC (.int 0))) (ρ (.fz (.int (1 + v))) (.fz (.int (-1)))) = some (.ok (decide (u = 0))) :=
    eqE (call_ev (ds := [.int other, .int (k + 4), .int 4]) rfl hu)
  obtain ⟨r, hr, s3⟩ : ∃ r, (-1 ≤ r ∧ r < 1 + v) ∧ sIf (bT (eOp dEq (eCall (dDef 3 [] (dCall m_law_draw)) (aCons (eVar 3) (aCons (eOp dAddU (eVarB 9) (eC (.int 4))) (aCons (eC (.int 4)) aNil)))) (eC (.int 0))))
        (sSet 11 (eCall (dDef 3 [] (dCall m_law_draw)) (aCons (eVar 3) (aCons (eOp dAddU (eVarB 9) (eC (.int 5))) (aCons (eVar 10) aNil))))) sNil (ρ (.fz (.int (1 + v))) (.fz (.int (-1)))) = some (.nx (ρ (.fz (.int (1 + v))) (.fz (.int r)))) := by
    by_cases z : u = 0
    · rw [decide_eq_true z] at hc
      exact ⟨t, by omega, if_t hc (set_ev (i := 11) (call_ev (ds := [.int other, .int (k + 5), .int (1 + v)]) rfl ht))⟩
    · rw [decide_eq_false z] at hc
      exact ⟨-1, by omega, if_f hc rfl⟩
  refine ⟨1 + v, r, .fz (.int (1 + v)), .fz (.int r), by omega, (seq_nx s1).trans ((seq_nx s2).trans ((seq_nx s3).trans ?_))⟩
  have hix : eOp dIx (eVarB 7) (eOp dMod (eOp dAddU (eOp dDiv (eVarB 2) (eC (.int 54))) (eVarB 9)) (eC (.int 5))) (ρ (.fz (.int (1 + v))) (.fz (.int r))) = some (.ok (.str (nm5 ((r5 cell + k) % 5)))) := by
    refine op_ev (d := nmT) (e := .int ((cell / 54 + k) % 5)) rfl (modE (i := cell / 54 + k) (op_ev (d := .int (cell / 54)) (e := Dn k) (divE (i := cell) rfl (by decide)) rfl rfl) (by decide)) ?_
    rw [r5_add]
    exact nm5_ix _ (Nat.mod_lt _ (by decide))
  exact app_ev (i := 8) (ds := acc) (d := (S.mk (nm5 ((r5 cell + k) % 5)) (1 + v) r).d) rfl (tup_ev (n := 3) (a_cons hix (a_cons rfl (a_cons rfl rfl))) (Nat.le_refl 3)) (by omega)
theorem sp_go {ns : List Int} {first : Nat} {cell other most : Int} {third e4 e5 e12 e13 : Ent} (hm : 0 < most) : ∀ (m s : Nat) (acc : List S) (e9 e10 e11 : Ent), acc.length + m ≤ 900 →
    ∃ ss f9 f10 f11, ss.length = m ∧ (∀ t ∈ ss, 1 ≤ t.gap ∧ t.gap ≤ most ∧ -1 ≤ t.rest ∧ t.rest < t.gap) ∧ ss.map (·.nm) = (List.range' s m).map (fun k => nm5 ((r5 cell + k) % 5)) ∧
    forD (gN 9) bSp ((List.range' s m).map Dn) (roP ns first (.fz (.int cell)) (.fz (.int other)) e4 e5 (.fz (.int most)) (.fz nmT) (.ow (acc.map S.d)) e9 e10 e11 e12 e13) =
      some (.nx (roP ns first (.fz (.int cell)) (.fz (.int other)) e4 e5 (.fz (.int most)) (.fz nmT) (.ow ((acc ++ ss).map S.d)) f9 f10 f11 e12 e13))
  | 0, s, acc, e9, e10, e11, _ => ⟨[], e9, e10, e11, rfl, (fun t ht => nomatch ht), rfl, by rw [List.append_nil]; rfl⟩
  | m + 1, s, acc, e9, e10, e11, hl => by
    obtain ⟨g, r, f10, f11, hb, hs⟩ := sp_step (ns := ns) (first := first) (k := s) (cell := cell) (other := other) (third := third) (e4 := e4) (e5 := e5) (e10 := e10) (e11 := e11) (e12 := e12) (e13 := e13) (acc := acc.map S.d) hm (by rw [List.length_map]; omega)
    obtain ⟨ss, h9, h10, h11, q1, q2, q3, q4⟩ := sp_go (ns := ns) (first := first) (cell := cell) (other := other) (third := third) (e4 := e4) (e5 := e5) (e12 := e12) (e13 := e13) hm m (s + 1) (acc ++ [S.mk (nm5 ((r5 cell + s) % 5)) g r]) (.fz (Dn s)) f10 f11 (by simp; omega)
    refine ⟨S.mk (nm5 ((r5 cell + s) % 5)) g r :: ss, h9, h10, h11, by rw [List.length_cons, q1], fun t ht => ?_, ?_, ?_⟩
    · rcases List.mem_cons.mp ht with rfl | ht
      · exact hb
      · exact q2 t ht
    · rw [List.map_cons, q3, List.range'_succ, List.map_cons]
    · rw [List.range'_succ, List.map_cons]
      refine (for_cons (ρ1 := roP ns first (.fz (.int cell)) (.fz (.int other)) e4 e5 (.fz (.int most)) (.fz nmT) (.ow (acc.map S.d)) (.fz (Dn s)) e10 e11 e12 e13) rfl hs).trans ?_
      rw [List.map_append, List.map_cons, List.map_nil] at q4
      rw [q4, List.append_assoc]; rfl
theorem prodS_le {b : Nat} : ∀ (ss : List S) (n : Nat), (∀ s ∈ ss, s.gap ≤ b) → prodS n ss ≤ n * b ^ ss.length
  | [], n, _ => by show n ≤ n * 1; omega
  | s :: ss, n, h => by
    have h1 := h s List.mem_cons_self
    have h2 := prodS_le ss (n * s.gap.toNat) fun t ht => h t (List.mem_cons_of_mem _ ht)
    have h3 : n * s.gap.toNat ≤ n * b := Nat.mul_le_mul_left _ (by omega)
    have h4 : n * s.gap.toNat * b ^ ss.length ≤ n * b * b ^ ss.length := Nat.mul_le_mul_right _ h3
    show prodS (n * s.gap.toNat) ss ≤ n * b ^ (ss.length + 1)
    rw [Nat.pow_succ, Nat.mul_comm (b ^ ss.length), ← Nat.mul_assoc]
    omega
theorem pow_wk {ρ : Ro} {f : Ro → EM D} {wk : Nat} {c : Int} (hf : f ρ = some (.ok (Dn wk))) (hw : wk ≤ 900) {g : Ro → EM D} (hg : g ρ = some (.ok (.int c))) : ∃ cl : Nat, cl < 2 ^ wk ∧ eOp dMod g (eOp dShl (eC (.int 1)) f) ρ = some (.ok (.int cl)) := by
  have hp : (0 : Int) < ((2 ^ wk : Nat) : Int) := by have := Nat.pow_pos (n := wk) (show 0 < 2 by decide); omega
  have h0 := Int.emod_nonneg c (show ((2 ^ wk : Nat) : Int) ≠ 0 by omega)
  have h1 := Int.emod_lt_of_pos c hp
  refine ⟨(c % ((2 ^ wk : Nat) : Int)).toNat, by omega, ?_⟩
  rw [Int.toNat_of_nonneg h0]
  exact op_ev hg (op_ev (d := .int 1) (e := Dn wk) rfl hf (shl_one wk (by omega))) (mod_ev hp)
theorem spec_is (ns : List Int) (first : Nat) : ∃ ss cans wk cl, Sok ss cans wk cl ∧ ss.length ≤ 3 ∧ (∀ s ∈ ss, s.gap ≤ 9 ∧ ∃ j, j < 5 ∧ s.nm = nm5 j) ∧ m_law_spec [.scr ns, Dn first] = some (.ret (spD3 ss cans wk cl)) := by
  let cell := ns.getD first 0
  let other := ns.getD (first + 1) 0
  let third := ns.getD (first + 2) 0
  let ρ := fun (e5 e6 : Ent) => roP ns first (.fz (.int cell)) (.fz (.int other)) (.fz (.int third)) e5 e6 .un .un .un .un .un .un .un
  have s1 : ∀ rest : Ro → Option Fl, sSeq (sSet 2 (eCall (dDef 2 [] (dCall m_law_cell_at)) (aCons (eVar 0) (aCons (eVar 1) aNil)))) (sSeq (sSet 3 (eCall (dDef 2 [] (dCall m_law_cell_at)) (aCons (eVar 0) (aCons (eOp dAddU (eVarB 1) (eC (.int 1))) aNil)))) (sSeq (sSet 4 (eCall (dDef 2 [] (dCall m_law_cell_at)) (aCons (eVar 0) (aCons (eOp dAddU (eVarB 1) (eC (.int 2))) aNil)))) rest)) (startE 14 [.scr ns, Dn first]) = rest (ρ .un .un) := fun rest =>
    (seq_nx (ρ' := roP ns first (.fz (.int cell)) .un .un .un .un .un .un .un .un .un .un .un) (set_ev (i := 2) (cellN rfl rfl))).trans
    ((seq_nx (ρ' := roP ns first (.fz (.int cell)) (.fz (.int other)) .un .un .un .un .un .un .un .un .un .un) (set_ev (i := 3) (cellN (k := first + 1) rfl rfl))).trans
    (seq_nx (ρ' := ρ .un .un) (set_ev (i := 4) (cellN (k := first + 2) rfl rfl))))
  have hc3 := Int.emod_nonneg cell (show (3 : Int) ≠ 0 by decide)
  have hc3' := Int.emod_lt_of_pos cell (show (0 : Int) < 3 by decide)
  have s2 : ∀ rest : Ro → Option Fl, sSeq (sSet 5 (eOp dAddU (eC (.int 1)) (eOp dMod (eVarB 2) (eC (.int 3))))) (sSeq (sSet 6 (eC (.int 3))) rest) (ρ .un .un) = rest (ρ (.fz (.int (1 + cell % 3))) (.fz (.int 3))) := fun rest =>
    (seq_nx (ρ' := ρ (.fz (.int (1 + cell % 3))) .un) (set_ev (i := 5) (op_ev (d := .int 1) (e := .int (cell % 3)) rfl (modE (i := cell) rfl (by decide)) rfl))).trans rfl
  obtain ⟨m0, hm0, s3⟩ : ∃ m0 : Int, (m0 = 2 ∨ m0 = 3) ∧ sIf (bAnd (bT (eOp dEq (eVarB 5) (eC (.int 3)))) (bT (eOp dGt (eOp dMod (eOp dDiv (eVarB 2) (eC (.int 3))) (eC (.int 3))) (eC (.int 0))))) (sSet 6 (eC (.int 2))) sNil (ρ (.fz (.int (1 + cell % 3))) (.fz (.int 3))) = some (.nx (ρ (.fz (.int (1 + cell % 3))) (.fz (.int m0)))) := by
    have b1 : bT (eOp dEq (eVarB 5) (eC (.int 3))) (ρ (.fz (.int (1 + cell % 3))) (.fz (.int 3))) = some (.ok (decide (1 + cell % 3 = 3))) := eqE rfl
    have b2 : bT (eOp dGt (eOp dMod (eOp dDiv (eVarB 2) (eC (.int 3))) (eC (.int 3))) (eC (.int 0))) (ρ (.fz (.int (1 + cell % 3))) (.fz (.int 3))) = some (.ok (decide (0 < cell / 3 % 3))) := bT_ev (op_ev (d := .int (cell / 3 % 3)) (e := .int 0) (modE (divE (i := cell) rfl (by decide)) (by decide)) rfl rfl)
    by_cases z : 1 + cell % 3 = 3
    · rw [decide_eq_true z] at b1
      by_cases y : 0 < cell / 3 % 3
      · rw [decide_eq_true y] at b2
        exact ⟨2, .inl rfl, if_t (and_t b1 b2) rfl⟩
      · rw [decide_eq_false y] at b2
        exact ⟨3, .inr rfl, if_f (and_t b1 b2) rfl⟩
    · rw [decide_eq_false z] at b1
      exact ⟨3, .inr rfl, if_f (and_f b1) rfl⟩
  have b4 : ∀ ρ' : Ro, eVarB 2 ρ' = some (.ok (.int cell)) → bT (eOp dEq (eOp dMod (eOp dDiv (eVarB 2) (eC (.int 9))) (eC (.int 6))) (eC (.int 4))) ρ' = some (.ok (decide (cell / 9 % 6 = 4))) := fun ρ' h => eqE (modE (divE (i := cell) h (by decide)) (by decide))
  obtain ⟨n, most, hn, hmn, s4⟩ : ∃ (n : Nat) (most : Int), (1 ≤ n ∧ n ≤ 3) ∧ ((cell / 9 % 6 = 4 ∧ n = 1 ∧ most = 9) ∨ (¬ cell / 9 % 6 = 4 ∧ (most = 2 ∨ most = 3))) ∧ sIf (bT (eOp dEq (eOp dMod (eOp dDiv (eVarB 2) (eC (.int 9))) (eC (.int 6))) (eC (.int 4)))) (sSeq (sSet 5 (eC (.int 1))) (sSet 6 (eC (.int 9)))) sNil (ρ (.fz (.int (1 + cell % 3))) (.fz (.int m0))) = some (.nx (ρ (.fz (Dn n)) (.fz (.int most)))) := by
    have b := b4 (ρ (.fz (.int (1 + cell % 3))) (.fz (.int m0))) rfl
    by_cases z : cell / 9 % 6 = 4
    · rw [decide_eq_true z] at b
      exact ⟨1, 9, by omega, .inl ⟨z, rfl, rfl⟩, if_t b rfl⟩
    · rw [decide_eq_false z] at b
      refine ⟨(1 + cell % 3).toNat, m0, by omega, .inr ⟨z, hm0⟩, ?_⟩
      have : (Dn (1 + cell % 3).toNat) = .int (1 + cell % 3) := by
        show D.int _ = _
        rw [Int.toNat_of_nonneg (by omega)]
      rw [this]
      exact if_f b rfl
  have hmost : 0 < most := by omega
  obtain ⟨ss, f9, f10, f11, q1, q2, q3, q4⟩ := sp_go (ns := ns) (first := first) (cell := cell) (other := other) (third := .un) (e4 := .fz (.int third)) (e5 := .fz (Dn n)) (e12 := .un) (e13 := .un) hmost n 0 [] .un .un .un (by simp; omega)
  rw [List.nil_append] at q4
  let τ := fun (e12 e13 : Ent) => roP ns first (.fz (.int cell)) (.fz (.int other)) (.fz (.int third)) (.fz (Dn n)) (.fz (.int most)) (.fz nmT) (.ow (ss.map S.d)) f9 f10 f11 e12 e13
  have t3 := Int.emod_nonneg third (show (3 : Int) ≠ 0 by decide)
  obtain ⟨w0, hw0, s5⟩ : ∃ w0 : Nat, (1 ≤ w0 ∧ w0 ≤ 2) ∧ sSet 12 (eOp dAddU (eC (.int 1)) (eCall dInt (aCons (eOp dEq (eOp dMod (eVarB 4) (eC (.int 3))) (eC (.int 0))) aNil))) (τ .un .un) = some (.nx (τ (.fz (Dn w0)) .un)) := by
    have : ∀ b : Bool, eOp dEq (eOp dMod (eVarB 4) (eC (.int 3))) (eC (.int 0)) (τ .un .un) = some (.ok (.bl b)) → sSet 12 (eOp dAddU (eC (.int 1)) (eCall dInt (aCons (eOp dEq (eOp dMod (eVarB 4) (eC (.int 3))) (eC (.int 0))) aNil))) (τ .un .un) = some (.nx (τ (.fz (.int (1 + if b then 1 else 0))) .un)) := fun b hb =>
      set_ev (i := 12) (op_ev (d := .int 1) (e := .int (if b then 1 else 0)) rfl (call_ev (ds := [.bl b]) (a_cons hb rfl) rfl) rfl)
    have hb : eOp dEq (eOp dMod (eVarB 4) (eC (.int 3))) (eC (.int 0)) (τ .un .un) = some (.ok (.bl (decide (third % 3 = 0)))) := op_ev (d := .int (third % 3)) (e := .int 0) (modE (i := third) rfl (by decide)) rfl rfl
    by_cases z : third % 3 = 0
    · rw [decide_eq_true z] at hb
      exact ⟨2, by omega, this true hb⟩
    · rw [decide_eq_false z] at hb
      exact ⟨1, by omega, this false hb⟩
  obtain ⟨w1, hw1, s6⟩ : ∃ w1 : Nat, (1 ≤ w1 ∧ w1 ≤ 3) ∧ sIf (bT (eOp dEq (eOp dMod (eOp dDiv (eVarB 4) (eC (.int 3))) (eC (.int 8))) (eC (.int 3)))) (sSet 12 (eOp dAddU (eC (.int 1)) (eOp dMod (eOp dDiv (eVarB 4) (eC (.int 24))) (eC (.int 3))))) sNil (τ (.fz (Dn w0)) .un) = some (.nx (τ (.fz (Dn w1)) .un)) := by
    have b : bT (eOp dEq (eOp dMod (eOp dDiv (eVarB 4) (eC (.int 3))) (eC (.int 8))) (eC (.int 3))) (τ (.fz (Dn w0)) .un) = some (.ok (decide (third / 3 % 8 = 3))) := eqE (modE (divE (i := third) rfl (by decide)) (by decide))
    by_cases z : third / 3 % 8 = 3
    · rw [decide_eq_true z] at b
      have y0 := Int.emod_nonneg (third / 24) (show (3 : Int) ≠ 0 by decide)
      have y1 := Int.emod_lt_of_pos (third / 24) (show (0 : Int) < 3 by decide)
      refine ⟨(1 + third / 24 % 3).toNat, by omega, ?_⟩
      rw [show (Dn (1 + third / 24 % 3).toNat) = .int (1 + third / 24 % 3) from by show D.int _ = _; rw [Int.toNat_of_nonneg (by omega)]]
      exact if_t b (set_ev (i := 12) (op_ev (d := .int 1) (e := .int (third / 24 % 3)) rfl (modE (divE (i := third) rfl (by decide)) (by decide)) rfl))
    · rw [decide_eq_false z] at b
      exact ⟨w0, by omega, if_f b rfl⟩
  obtain ⟨wk, hwk, s7⟩ : ∃ wk : Nat, ((1 ≤ wk ∧ wk ≤ 14) ∧ (¬ cell / 9 % 6 = 4 → wk ≤ 3)) ∧ sIf (bT (eOp dEq (eOp dMod (eOp dDiv (eVarB 2) (eC (.int 9))) (eC (.int 6))) (eC (.int 4)))) (sSet 12 (eOp dAddU (eC (.int 1)) (eOp dMod (eVarB 4) (eC (.int 14))))) sNil (τ (.fz (Dn w1)) .un) = some (.nx (τ (.fz (Dn wk)) .un)) := by
    have b := b4 (τ (.fz (Dn w1)) .un) rfl
    by_cases z : cell / 9 % 6 = 4
    · rw [decide_eq_true z] at b
      have y0 := Int.emod_nonneg third (show (14 : Int) ≠ 0 by decide)
      have y1 := Int.emod_lt_of_pos third (show (0 : Int) < 14 by decide)
      refine ⟨(1 + third % 14).toNat, ⟨by omega, fun q => absurd z q⟩, ?_⟩
      rw [show (Dn (1 + third % 14).toNat) = .int (1 + third % 14) from by show D.int _ = _; rw [Int.toNat_of_nonneg (by omega)]]
      exact if_t b (set_ev (i := 12) (op_ev (d := .int 1) (e := .int (third % 14)) rfl (modE (i := third) rfl (by decide)) rfl))
    · rw [decide_eq_false z] at b
      exact ⟨w1, ⟨by omega, fun _ => hw1.2⟩, if_f b rfl⟩
  obtain ⟨cl, hcl, s8⟩ : ∃ cl : Nat, cl < 2 ^ wk ∧ ∀ rest : Ro → Option Fl, sSeq (sSet 13 (eC (.int 0))) (sSeq (sIf (bT (eOp dEq (eOp dMod (eOp dDiv (eVarB 4) (eC (.int 72))) (eC (.int 3))) (eC (.int 1)))) (sSet 13 (eOp dMod (eOp dDiv (eVarB 4) (eC (.int 216))) (eOp dShl (eC (.int 1)) (eVarB 12)))) sNil) rest) (τ (.fz (Dn wk)) .un) = rest (τ (.fz (Dn wk)) (.fz (Dn cl))) := by
    have b : bT (eOp dEq (eOp dMod (eOp dDiv (eVarB 4) (eC (.int 72))) (eC (.int 3))) (eC (.int 1))) (τ (.fz (Dn wk)) (.fz (.int 0))) = some (.ok (decide (third / 72 % 3 = 1))) := eqE (modE (divE (i := third) rfl (by decide)) (by decide))
    by_cases z : third / 72 % 3 = 1
    · rw [decide_eq_true z] at b
      obtain ⟨cl, h1, h2⟩ := pow_wk (ρ := τ (.fz (Dn wk)) (.fz (.int 0))) (f := eVarB 12) (wk := wk) rfl (by omega) (g := eOp dDiv (eVarB 4) (eC (.int 216))) (divE (i := third) rfl (by decide))
      exact ⟨cl, h1, fun rest => (seq_nx (ρ' := τ (.fz (Dn wk)) (.fz (.int 0))) rfl).trans (seq_nx (if_t b (set_ev (i := 13) h2)))⟩
    · rw [decide_eq_false z] at b
      exact ⟨0, Nat.pow_pos (by decide), fun rest => (seq_nx (ρ' := τ (.fz (Dn wk)) (.fz (.int 0))) rfl).trans (seq_nx (if_f b rfl))⟩
  have c0 := Int.emod_nonneg (third / 5) (show (6 : Int) ≠ 0 by decide)
  have c1 := Int.emod_lt_of_pos (third / 5) (show (0 : Int) < 6 by decide)
  obtain ⟨cans, hcn, hix⟩ : ∃ cans : Int, (0 ≤ cans ∧ cans ≤ 8) ∧ dIx (.tup [.int 1, .int 2, .int 1, .int 0, .int 3, .int 1]) (.int (third / 5 % 6)) = some (.ok (.int cans)) := by
    have : third / 5 % 6 = 0 ∨ third / 5 % 6 = 1 ∨ third / 5 % 6 = 2 ∨ third / 5 % 6 = 3 ∨ third / 5 % 6 = 4 ∨ third / 5 % 6 = 5 := by omega
    rcases this with h | h | h | h | h | h <;> rw [h] <;> exact ⟨_, by decide, rfl⟩
  have hnm : ∀ s ∈ ss, ∃ j, j < 5 ∧ s.nm = nm5 j := fun s hs => by
    have : s.nm ∈ ss.map (·.nm) := List.mem_map.mpr ⟨s, hs, rfl⟩
    rw [q3] at this
    obtain ⟨k, _, hk⟩ := List.mem_map.mp this
    exact ⟨(r5 cell + k) % 5, Nat.mod_lt _ (by decide), hk.symm⟩
  refine ⟨ss, cans, wk, cl, ⟨by omega, by omega, fun s hs => ?_, fun s hs => ?_, ?_, hcn, hwk.1, hcl, ?_⟩, by omega, (fun s hs => ⟨by have := q2 s hs; omega, hnm s hs⟩), ?_⟩
  · have := q2 s hs; omega
  · have : s.nm ∈ ss.map (·.nm) := List.mem_map.mpr ⟨s, hs, rfl⟩
    rw [q3] at this
    obtain ⟨k, _, hk⟩ := List.mem_map.mp this
    rw [← hk]
    exact nm5_ok _ (Nat.mod_lt _ (by decide))
  · rw [q3]; exact nms_ok _ n (r5_lt cell) hn.2
  · rcases hmn with ⟨_, h1, h2⟩ | ⟨h1, h2⟩
    · have := prodS_le (b := 9) ss 1 (fun s hs => by have := q2 s hs; omega)
      rw [q1, h1] at this
      have h3 : wk * prodS 1 ss ≤ 14 * 9 := Nat.mul_le_mul hwk.1.2 (by omega)
      omega
    · have := prodS_le (b := 3) ss 1 (fun s hs => by have := q2 s hs; omega)
      rw [q1] at this
      have h4 : 3 ^ n ≤ 3 ^ 3 := Nat.pow_le_pow_right (by decide) hn.2
      have h3 : wk * prodS 1 ss ≤ 3 * 27 := Nat.mul_le_mul (hwk.2 h1) (by omega)
      omega
  · refine run_ret ((s1 _).trans ((s2 _).trans ((seq_nx s3).trans ((seq_nx s4).trans ?_))))
    refine (seq_nx (ρ' := roP ns first (.fz (.int cell)) (.fz (.int other)) (.fz (.int third)) (.fz (Dn n)) (.fz (.int most)) (.fz nmT) .un .un .un .un .un .un) rfl).trans ?_
    refine (seq_nx (ρ' := roP ns first (.fz (.int cell)) (.fz (.int other)) (.fz (.int third)) (.fz (Dn n)) (.fz (.int most)) (.fz nmT) (.ow ([].map S.d)) .un .un .un .un .un) rfl).trans ?_
    refine (seq_nx (ρ' := τ .un .un) (for_ev (ds := (List.range' 0 n).map Dn) (rg_ev (ds := [Dn n]) rfl (rng1_is n (by omega))) q4)).trans ?_
    refine (seq_nx s5).trans ((seq_nx s6).trans ((seq_nx s7).trans ((s8 _).trans ?_)))
    show sRet _ (roP ns first (.fz (.int cell)) (.fz (.int other)) (.fz (.int third)) (.fz (Dn n)) (.fz (.int most)) (.fz nmT) (.fz (.lst (ss.map S.d))) f9 f10 f11 (.fz (Dn wk)) (.fz (Dn cl))) = _
    refine ret_ev (tup_ev (n := 4) (ds := [.lst (ss.map S.d), .int cans, Dn wk, Dn cl]) (a_cons rfl (a_cons (op_ev (d := .tup [.int 1, .int 2, .int 1, .int 0, .int 3, .int 1]) (e := .int (third / 5 % 6)) rfl (modE (divE (i := third) rfl (by decide)) (by decide)) hix) (a_cons rfl (a_cons rfl rfl)))) (Nat.le_refl 4))
end K06
namespace K06
open PySem PySem.Spec PyProof.Rows L2 Tw
/-! ### data that may be told and compared -/
theorem smL_all : ∀ {ds : List D}, (∀ d ∈ ds, smD d = true) → smL ds = true
  | [], _ => by simp [smL]
  | d :: ds, h => by simp [smL, h d List.mem_cons_self, smL_all fun e he => h e (List.mem_cons_of_mem _ he)]
theorem szL_le {b : Nat} : ∀ {ds : List D}, (∀ d ∈ ds, szD d ≤ b) → szL ds ≤ b * ds.length
  | [], _ => by simp [szL]
  | d :: ds, h => by
    have h1 := h d List.mem_cons_self
    have h2 := szL_le (b := b) (ds := ds) fun e he => h e (List.mem_cons_of_mem _ he)
    simp only [szL, List.length_cons, Nat.mul_succ]
    omega
theorem dpL_le {b : Nat} : ∀ {ds : List D}, (∀ d ∈ ds, dpD d ≤ b) → dpL ds ≤ b
  | [], _ => by simp [dpL]
  | d :: ds, h => by
    have h1 := h d List.mem_cons_self
    have h2 := dpL_le (b := b) (ds := ds) fun e he => h e (List.mem_cons_of_mem _ he)
    simp only [dpL]
    omega
mutual
theorem sm_lay : ∀ d : D, smD d = true → (py d).canLay0 = true
  | .non, _ => by simp [py, PyData.canLay0]
  | .bl _, _ => by simp [py, PyData.canLay0]
  | .int _, _ => by simp [py, PyData.canLay0]
  | .str _, h => by
    simp only [smD, Bool.and_eq_true] at h
    simp only [py, PyData.canLay0]
    exact h.2.2
  | .lst xs, h => by simp only [py, PyData.canLay0]; exact sm_layL xs (by simpa [smD] using h)
  | .tup xs, h => by simp only [py, PyData.canLay0]; exact sm_layL xs (by simpa [smD] using h)
  | .obj _ _, h => by simp [smD] at h
  | .scr _, h => by simp [smD] at h
  | .ord _, h => by simp [smD] at h
theorem sm_layL : ∀ ds : List D, smL ds = true → PyData.canLayAll0 (pyL ds) = true
  | [], _ => by simp [pyL, PyData.canLayAll0]
  | d :: ds, h => by
    have h' : smD d = true ∧ smL ds = true := by simpa [smL] using h
    simp [pyL, PyData.canLayAll0, sm_lay d h'.1, sm_layL ds h'.2]
end
theorem okS_parts {d : D} (h : okS d = true) : smD d = true ∧ szD d ≤ 20000 ∧ dpD d ≤ 60 := by simpa [okS] using h
theorem okS_fit {d : D} (h : okS d = true) : fit d = true := by
  obtain ⟨h1, _, h3⟩ := okS_parts h
  show SeqAt.shaped (py d) = true
  unfold SeqAt.shaped
  rw [sm_lay d h1, decide_eq_true (by have := (py_sm d h1).2.2.2.2; omega)]; rfl
theorem ne_lst {xs : List D} (h : okS (.lst xs) = true) : dNe (.lst xs) (.lst xs) = some (.ok (.bl false)) := by
  show (if fit (.lst xs) = true ∧ fit (.lst xs) = true then ok (D.bl (!PyData.eqv (py (.lst xs)) (py (.lst xs)))) else none) = _
  rw [if_pos ⟨okS_fit h, okS_fit h⟩, SeqAt.eqv_refl _ (sm_lay _ (okS_parts h).1)]
  rfl
theorem str_lst {xs : List D} (h : okS (.lst xs) = true) : dStrU [.lst xs] = some (.ok (.str (py (.lst xs)).shown)) := by
  show (if (isSq (.lst xs) && okS (.lst xs)) = true then ok (D.str (py (.lst xs)).shown) else none) = _
  rw [if_pos (by rw [h]; rfl)]
  rfl
theorem ne_str (s : Str) : dNe (.str s) (.str s) = some (.ok (.bl false)) := by
  show some (Except.ok (D.bl (!decide (s = s)))) = _
  rw [decide_eq_true rfl]; rfl
theorem ints_sm : ∀ {is : List Int}, (∀ i ∈ is, i.natAbs < 10 ^ 12) → smL (is.map D.int) = true
  | [], _ => by simp [smL]
  | i :: is, h => by
    have h1 := h i List.mem_cons_self
    simp only [List.map_cons, smL, smD, Bool.and_eq_true, decide_eq_true_eq]
    exact ⟨h1, ints_sm fun j hj => h j (List.mem_cons_of_mem _ hj)⟩
theorem ints_sz : ∀ is : List Int, szL (is.map D.int) = is.length
  | [] => by simp [szL]
  | i :: is => by simp only [List.map_cons, szL, szD, ints_sz is, List.length_cons]; omega
theorem ints_dp : ∀ is : List Int, dpL (is.map D.int) = 0
  | [] => by simp [dpL]
  | i :: is => by simp only [List.map_cons, dpL, dpD, ints_dp is]; rfl
theorem okI_le : ∀ {is : List Int} {ps : List P}, okI is ps → Gap ps → ∀ i ∈ is, 0 ≤ i ∧ i ≤ 60
  | [], [], _, _, i, h => nomatch h
  | i :: is, p :: ps, h, hg, j, hj => by
    have hp := hg p List.mem_cons_self
    rcases List.mem_cons.mp hj with rfl | hj
    · have := h.1; omega
    · exact okI_le h.2 (fun q hq => hg q (List.mem_cons_of_mem _ hq)) j hj
theorem bhF_ok {c : Nat} : ∀ {is : List Int} {ps : List P} {s : Nat} {r : List Int}, okI is ps → Gap ps → bhF c s is ps = some r → okI r ps
  | [], [], s, r, _, _, h => by cases h; trivial
  | i :: is, p :: ps, s, r, ho, hg, h => by
    have hp := hg p List.mem_cons_self
    have hg' : Gap ps := fun q hq => hg q (List.mem_cons_of_mem _ hq)
    have h' : (if c.testBit s = true then (bhF c (s + 1) is ps).map (0 :: ·) else if i + 1 = p.gap then none else (bhF c (s + 1) is ps).map ((i + 1) :: ·)) = some r := h
    have h1 := ho.1
    split at h'
    · obtain ⟨r', hr, rfl⟩ := Option.map_eq_some_iff.mp h'
      exact ⟨by omega, bhF_ok ho.2 hg' hr⟩
    · split at h'
      · cases h'
      · obtain ⟨r', hr, rfl⟩ := Option.map_eq_some_iff.mp h'
        exact ⟨by omega, bhF_ok ho.2 hg' hr⟩
/-- a state, told -/
theorem st_sm {dy : Int} {is : List Int} {ps : List P} (h : okI is ps) (hg : Gap ps) (h8 : ps.length ≤ 8) (hd : 0 ≤ dy ∧ dy ≤ 1000) : smD (stD (.int dy) is) = true ∧ szD (stD (.int dy) is) ≤ 11 ∧ dpD (stD (.int dy) is) ≤ 2 := by
  have hl := okI_len h
  refine ⟨?_, ?_, ?_⟩
  · simp only [smD, smL, Bool.and_eq_true, decide_eq_true_eq]
    exact ⟨by omega, ints_sm fun i hi => by have := okI_le h hg i hi; omega, trivial⟩
  · simp only [szD, szL, ints_sz]; omega
  · simp only [dpD, dpL, ints_dp]; omega
theorem step_elem {ps : List P} {is : List Int} {cl dy wk : Nat} {cans : Int} {d : D} (hi : okI is ps) (hg : Gap ps) (h8 : ps.length ≤ 8) (hw : 1 ≤ wk ∧ wk ≤ 14) (h : d ∈ stepsF ps is cl dy cans wk) :
    ∃ (c dy' : Nat) (r : List Int), d = .tup [Dn c, stD (Dn dy') r] ∧ c < 256 ∧ dy' < wk ∧ okI r ps := by
  obtain ⟨c, hc, hs⟩ := List.mem_filterMap.mp h
  have h256 : 2 ^ ps.length ≤ 2 ^ 8 := Nat.pow_le_pow_right (by decide) h8
  have hc' := (List.mem_range'_1.mp hc).2
  unfold stepF at hs
  split at hs
  · obtain ⟨r, hr, rfl⟩ := Option.map_eq_some_iff.mp hs
    have m0 := Int.emod_nonneg ((dy : Int) + 1) (show (wk : Int) ≠ 0 by omega)
    have m1 := Int.emod_lt_of_pos ((dy : Int) + 1) (show (0 : Int) < wk by omega)
    refine ⟨c, (((dy : Int) + 1) % wk).toNat, r, ?_, by omega, by omega, bhF_ok hi hg hr⟩
    unfold nextD
    rw [show Dn ((((dy : Int) + 1) % wk).toNat) = .int (((dy : Int) + 1) % wk) from by show D.int _ = _; rw [Int.toNat_of_nonneg m0]]
  · cases hs
theorem steps_len {ps : List P} {is : List Int} {cl dy : Nat} {cans week : Int} (h8 : ps.length ≤ 8) : (stepsF ps is cl dy cans week).length ≤ 256 := by
  have h256 : 2 ^ ps.length ≤ 2 ^ 8 := Nat.pow_le_pow_right (by decide) h8
  have := List.length_filterMap_le (stepF ps is cl dy cans week) (List.range' 0 (2 ^ ps.length))
  rw [List.length_range'] at this
  unfold stepsF
  omega
theorem steps_ok {ps : List P} {is : List Int} {cl dy wk : Nat} {cans : Int} (hi : okI is ps) (hg : Gap ps) (h8 : ps.length ≤ 8) (hw : 1 ≤ wk ∧ wk ≤ 14) : okS (.lst (stepsF ps is cl dy cans wk)) = true := by
  have key : ∀ d ∈ stepsF ps is cl dy cans wk, smD d = true ∧ szD d ≤ 13 ∧ dpD d ≤ 3 := fun d hd => by
    obtain ⟨c, dy', r, rfl, hc, hdy, hr⟩ := step_elem hi hg h8 hw hd
    obtain ⟨a1, a2, a3⟩ := st_sm (dy := dy') hr hg h8 (by omega)
    have b1 : smD (Dn c) = true := by simp only [smD, decide_eq_true_eq]; omega
    refine ⟨?_, ?_, ?_⟩
    · simp only [smD, smL] at a1 b1 ⊢
      rw [a1, b1]; rfl
    · simp only [szD, szL] at a2 ⊢; omega
    · simp only [dpD, dpL] at a3 ⊢; omega
  have h1 := smL_all fun d hd => (key d hd).1
  have h2 := szL_le (b := 13) fun d hd => (key d hd).2.1
  have h3 := dpL_le (b := 3) fun d hd => (key d hd).2.2
  have h4 : (stepsF ps is cl dy cans wk).length ≤ 256 := steps_len h8
  show (smL _ && (decide (szL _ + 1 ≤ 20000) && decide (dpL _ + 1 ≤ 60))) = true
  rw [h1, decide_eq_true (by omega), decide_eq_true (by omega)]; rfl
end K06
namespace K06
open PySem PySem.Spec PyProof.Rows L2 Tw
/-! ### numbers of states -/
def numV : Int → List Int → List P → Int
  | a, i :: is, p :: ps => numV (a * p.gap + i) is ps
  | a, _, _ => a
theorem numGo_V : ∀ {is : List Int} {ps : List P} (a : Int), okI is ps → numGo a (is.map D.int) ps = some (numV a is ps)
  | [], [], a, _ => rfl
  | i :: is, p :: ps, a, h => by
    have ok : okD (.int i) p.gap = true := by
      show (decide (0 ≤ i) && decide (i ≤ p.gap - 1)) = true
      rw [decide_eq_true h.1.1, decide_eq_true (by have := h.1.2; omega)]; rfl
    show (if okD (.int i) p.gap = true then numGo (a * p.gap + i) (is.map D.int) ps else none) = _
    rw [if_pos ok, numGo_V _ h.2]; rfl
theorem numV_app : ∀ {is : List Int} {pre : List P} (a f : Int) (p : P), okI is pre → numV a (is ++ [f]) (pre ++ [p]) = numV a is pre * p.gap + f
  | [], [], a, f, p, _ => rfl
  | i :: is, q :: pre, a, f, p, h => by
    show numV (a * q.gap + i) (is ++ [f]) (pre ++ [p]) = _
    rw [numV_app _ f p h.2]; rfl
theorem okI_split : ∀ {is : List Int} {pre : List P} {p : P}, okI is (pre ++ [p]) → ∃ js f, is = js ++ [f] ∧ okI js pre ∧ 0 ≤ f ∧ f < p.gap
  | [], [], p, h => h.elim
  | [], q :: pre, p, h => h.elim
  | [i], [], p, h => ⟨[], i, rfl, trivial, h.1⟩
  | i :: j :: is, [], p, h => h.2.elim
  | i :: is, q :: pre, p, h => by
    obtain ⟨js, f, rfl, h2, h3⟩ := okI_split h.2
    exact ⟨i :: js, f, rfl, ⟨h.1, h2⟩, h3⟩
theorem dg_num : ∀ (Q : List P) (a : Int) (is : List Int), Gap Q → okI is Q.reverse → dgP (numV a is Q.reverse) Q = (a, is)
  | [], a, is, _, h => by
    cases is with
    | nil => rfl
    | cons i is => exact h.elim
  | p :: Q, a, is, hg, h => by
    rw [List.reverse_cons] at h ⊢
    obtain ⟨js, f, rfl, h2, h3, h4⟩ := okI_split h
    have hp := hg p List.mem_cons_self
    have ih := dg_num Q a js (fun q hq => hg q (List.mem_cons_of_mem _ hq)) h2
    rw [numV_app _ f p h2]
    have e1 : (numV a js Q.reverse * p.gap + f) / p.gap = numV a js Q.reverse := by
      rw [Int.add_comm, Int.add_mul_ediv_right _ _ (by omega), Int.ediv_eq_zero_of_lt h3 h4, Int.zero_add]
    have e2 : (numV a js Q.reverse * p.gap + f) % p.gap = f := by
      rw [Int.add_comm, Int.add_mul_emod_self_right, Int.emod_eq_of_lt h3 h4]
    show ((dgP ((numV a js Q.reverse * p.gap + f) / p.gap) Q).1, (dgP ((numV a js Q.reverse * p.gap + f) / p.gap) Q).2 ++ [(numV a js Q.reverse * p.gap + f) % p.gap]) = _
    rw [e1, e2, ih]
theorem numV_bound : ∀ {is : List Int} {ps : List P} (a : Int), okI is ps → Gap ps → 0 ≤ a → 0 ≤ numV a is ps ∧ ∀ w, a < w → numV a is ps < prodG w ps
  | [], [], a, _, _, h => ⟨h, fun w hw => hw⟩
  | i :: is, p :: ps, a, h, hg, h0 => by
    have hp := hg p List.mem_cons_self
    have hm : 0 ≤ a * p.gap := Int.mul_nonneg h0 (by omega)
    obtain ⟨q1, q2⟩ := numV_bound (a * p.gap + i) h.2 (fun q hq => hg q (List.mem_cons_of_mem _ hq)) (by have := h.1.1; omega)
    refine ⟨q1, fun w hw => q2 (w * p.gap) ?_⟩
    have h1 : (a + 1) * p.gap ≤ w * p.gap := Int.mul_le_mul_of_nonneg_right (by omega) (by omega)
    rw [Int.add_mul, Int.one_mul] at h1
    have := h.1.2
    omega
theorem numV_lin : ∀ {is : List Int} {ss : List S} (a : Int), okI is (ss.map S.p) → (∀ s ∈ ss, 1 ≤ s.gap) → numV a is (ss.map S.p) = a * prodS 1 ss + numV 0 is (ss.map S.p)
  | [], [], a, _, _ => by show a = a * 1 + 0; omega
  | i :: is, s :: ss, a, h, hg => by
    have h1 := hg s List.mem_cons_self
    have hg' : ∀ t ∈ ss, 1 ≤ t.gap := fun t ht => hg t (List.mem_cons_of_mem _ ht)
    show numV (a * s.gap + i) is (ss.map S.p) = a * ((prodS (1 * s.gap.toNat) ss : Nat) : Int) + numV (0 * s.gap + i) is (ss.map S.p)
    rw [numV_lin _ h.2 hg', numV_lin (0 * s.gap + i) h.2 hg', prodS_mul ss (1 * s.gap.toNat), Nat.one_mul, Int.natCast_mul, Int.toNat_of_nonneg (by omega), Int.add_mul, Int.zero_mul, Int.zero_add, Int.mul_assoc, Int.add_assoc]
theorem flat_nums {g : Nat} (f : List Int → Int) (f' : List Int → Int) (hf : ∀ (is : List Int) (k : Nat), f' (is ++ [(k : Int)]) = f is * g + k) : ∀ (L : List (List Int)) (s : Nat), L.map f = (List.range' s L.length).map (fun (i : Nat) => (i : Int)) → (L.flatMap (ext g)).map f' = (List.range' (s * g) (L.length * g)).map (fun (i : Nat) => (i : Int))
  | [], s, _ => by simp
  | is :: L, s, h => by
    rw [List.map_cons, List.length_cons, List.range'_succ, List.map_cons] at h
    injection h with h1 h2
    have ih := flat_nums f f' hf L (s + 1) h2
    rw [List.flatMap_cons, List.map_append, ih, List.length_cons, Nat.succ_mul, Nat.succ_mul, Nat.add_comm (L.length * g) g, ← List.range'_append_1, List.map_append]
    congr 1
    unfold ext
    rw [List.map_map]
    have : (List.range' 0 g).map (f' ∘ fun (k : Nat) => is ++ [(k : Int)]) = (List.range' 0 g).map fun (k : Nat) => (((s * g + k : Nat)) : Int) := by
      apply List.map_congr_left
      intro k _
      show f' (is ++ [(k : Int)]) = _
      rw [hf is k, h1]
      norm_cast
    rw [this, List.range'_eq_map_range (s := s * g), List.map_map, List.range_eq_range']
    rfl
theorem sinceGo_nums : ∀ (ss : List S) (L : List (List Int)) (pre : List P), (∀ s ∈ ss, 1 ≤ s.gap) → (∀ is ∈ L, okI is pre) → L.map (fun is => numV 0 is pre) = (List.range' 0 L.length).map (fun (i : Nat) => (i : Int)) → (sinceGo L ss).map (fun is => numV 0 is (pre ++ ss.map S.p)) = (List.range' 0 (prodS L.length ss)).map (fun (i : Nat) => (i : Int))
  | [], L, pre, _, _, h => by
    rw [List.map_nil, List.append_nil]; exact h
  | s :: ss, L, pre, hg, hok, h => by
    have h1 := hg s List.mem_cons_self
    have hok' : ∀ is ∈ L.flatMap (ext s.gap.toNat), okI is (pre ++ [s.p]) := fun js hj => by
      obtain ⟨ks, hk, hx⟩ := List.mem_flatMap.mp hj
      obtain ⟨f, hf, rfl⟩ := List.mem_map.mp hx
      have := (List.mem_range'_1.mp hf).2
      exact okI_app (hok ks hk) ⟨by omega, by show (f : Int) < s.gap; omega⟩
    have key : (L.flatMap (ext s.gap.toNat)).map (fun is => numV 0 is (pre ++ [s.p])) = (List.range' 0 (L.flatMap (ext s.gap.toNat)).length).map (fun (i : Nat) => (i : Int)) := by
      have e : (L.flatMap (ext s.gap.toNat)).map (fun is => numV 0 is (pre ++ [s.p])) = (L.flatMap (ext s.gap.toNat)).map (fun is => match is.getLast? with | some f => numV 0 is.dropLast pre * s.gap.toNat + f | none => 0) := by
        apply List.map_congr_left
        intro js hj
        obtain ⟨ks, hk, hx⟩ := List.mem_flatMap.mp hj
        obtain ⟨f, hf, rfl⟩ := List.mem_map.mp hx
        rw [numV_app _ _ s.p (hok ks hk), List.getLast?_concat, List.dropLast_concat, Int.toNat_of_nonneg (by omega)]
        rfl
      rw [e, flat_nums (g := s.gap.toNat) (fun is => numV 0 is pre) _ (fun is k => by rw [List.getLast?_concat, List.dropLast_concat]) L 0 h, Nat.zero_mul, flat_len]
    have ih := sinceGo_nums ss (L.flatMap (ext s.gap.toNat)) (pre ++ [s.p]) (fun t ht => hg t (List.mem_cons_of_mem _ ht)) hok' key
    rw [List.append_assoc, flat_len] at ih
    exact ih
/-- the number of a state, told as data -/
def numD (ps : List P) : D → Int
  | .tup [.int d, .tup is] => numV d (is.map valD) ps
  | _ => 0
theorem numD_st (ps : List P) (d : Int) (is : List Int) : numD ps (stD (.int d) is) = numV d is ps := by
  show numV d ((is.map D.int).map valD) ps = _
  rw [List.map_map]
  congr 1
  exact List.map_id' is
section
variable {ss : List S} {cans : Int} {wk cl : Nat} {ks : List (Str × Int)}
theorem states_nums (hg : ∀ s ∈ ss, 1 ≤ s.gap) : ∀ (m s : Nat), ((List.range' s m).flatMap fun d => (sinceGo [[]] ss).map fun is => stD (Dn d) is).map (numD (ss.map S.p)) = (List.range' (s * prodS 1 ss) (m * prodS 1 ss)).map (fun (i : Nat) => (i : Int))
  | 0, s => by simp
  | m + 1, s => by
    rw [List.range'_succ, List.flatMap_cons, List.map_append, states_nums hg m (s + 1), Nat.succ_mul m, Nat.succ_mul s, Nat.add_comm (m * prodS 1 ss), ← List.range'_append_1, List.map_append]
    congr 1
    have h0 := sinceGo_nums ss [[]] [] hg (fun is hi => by rw [List.mem_singleton.mp hi]; exact trivial) rfl
    rw [List.nil_append] at h0
    rw [List.map_map]
    have e : (sinceGo [[]] ss).map (numD (ss.map S.p) ∘ fun is => stD (Dn s) is) = ((sinceGo [[]] ss).map fun is => numV 0 is (ss.map S.p)).map fun x => (s : Int) * prodS 1 ss + x := by
      rw [List.map_map]
      apply List.map_congr_left
      intro is hi
      have ho := sinceGo_ok ss [[]] [] (fun js hj => by rw [List.mem_singleton.mp hj]; exact trivial) is hi
      rw [List.nil_append] at ho
      show numD (ss.map S.p) (stD (Dn s) is) = (s : Int) * prodS 1 ss + numV 0 is (ss.map S.p)
      rw [show stD (Dn s) is = stD (.int (s : Int)) is from rfl, numD_st, numV_lin _ ho hg]
    rw [e, h0, List.map_map, List.range'_eq_map_range (s := s * prodS 1 ss), List.map_map, List.range_eq_range']
    apply List.map_congr_left
    intro k _
    show (s : Int) * (prodS 1 ss : Nat) + (k : Int) = ((s * prodS 1 ss + k : Nat) : Int)
    norm_cast
theorem states_at (hg : ∀ s ∈ ss, 1 ≤ s.gap) {k : Nat} {d : D} (h : (statesF ss wk)[k]? = some d) : numD (ss.map S.p) d = (k : Int) := by
  have e := states_nums (ss := ss) hg wk 0
  have h2 : ((statesF ss wk).map (numD (ss.map S.p)))[k]? = some (numD (ss.map S.p) d) := by rw [List.getElem?_map, h]; rfl
  have e' : (statesF ss wk).map (numD (ss.map S.p)) = (List.range' (0 * prodS 1 ss) (wk * prodS 1 ss)).map (fun (i : Nat) => (i : Int)) := e
  rw [e', Nat.zero_mul, List.getElem?_map] at h2
  cases h3 : (List.range' 0 (wk * prodS 1 ss))[k]? with
  | none => rw [h3] at h2; cases h2
  | some j =>
    rw [h3] at h2
    obtain ⟨_, hj⟩ := List.getElem?_eq_some_iff.mp h3
    rw [List.getElem_range'] at hj
    have : (j : Int) = numD (ss.map S.p) d := Option.some.inj h2
    omega
theorem states_len : (statesF ss wk).length = wk * prodS 1 ss := by
  unfold statesF
  rw [List.length_flatMap]
  have : ((List.range' 0 wk).map fun d => ((sinceGo [[]] ss).map fun is => stD (Dn d) is).length) = (List.range' 0 wk).map fun _ => prodS 1 ss := by
    apply List.map_congr_left
    intro d _
    rw [List.length_map, sinceGo_len]; rfl
  rw [this, List.map_const', List.sum_replicate_nat, List.length_range']
theorem number_of (h : Sok ss cans wk cl) {dy : Nat} {is : List Int} (hd : dy < wk) (hi : okI is (ss.map S.p)) : m_Garden_number [gdD (ss.map S.p) cans wk cl ks, stD (Dn dy) is] = some (.ret (.int (numV dy is (ss.map S.p)))) := by
  rw [num_is h.gap (noObj_ints is) (by rw [List.length_map, okI_len hi]) (by omega) (by omega) (by rw [List.length_map]; exact h.n8), numGo_V _ hi]
/-- what the number's state is -/
theorem nth_state (h : Sok ss cans wk cl) {n : Nat} (hn : n < wk * prodS 1 ss) : ∃ (dy : Nat) (is : List Int), dy < wk ∧ okI is (ss.map S.p) ∧ numV dy is (ss.map S.p) = n ∧ (statesF ss wk)[n]? = some (stD (Dn dy) is) := by
  have hl : n < (statesF ss wk).length := by rw [states_len]; exact hn
  obtain ⟨dy, is, e, hd, hi⟩ := states_mem (List.getElem_mem hl)
  have hg : (statesF ss wk)[n]? = some (stD (Dn dy) is) := by rw [List.getElem?_eq_getElem hl, e]
  refine ⟨dy, is, hd, hi, ?_, hg⟩
  have := states_at h.g1 hg
  rw [show stD (Dn dy) is = stD (.int (dy : Int)) is from rfl, numD_st] at this
  exact this
end
end K06
namespace K06
open PySem PySem.Spec PyProof.Rows L2 Tw
/-! ### gardens with other cans, other gaps -/
theorem namesS_pre : ∀ (a b : List Str) (ks r : List (Str × Int)), namesS (a ++ b) ks = some r → ∃ r', namesS a ks = some r'
  | [], b, ks, r, _ => ⟨ks, rfl⟩
  | s :: a, b, ks, r, h => by
    rw [List.cons_append] at h
    unfold namesS at h ⊢
    split at h
    · cases h
    · rename_i hn
      rw [if_neg hn]
      exact namesS_pre a b _ r h
/-- the names' dict: their places -/
theorem namesS_is : ∀ (l : List Str) (ks r : List (Str × Int)), namesS l ks = some r → (∀ s ∈ l, hasN ks s = false) ∧ ∃ t, r = ks ++ t ∧ t.map (·.1) = l ∧ ∀ (k : Nat) p, t[k]? = some p → p.2 = ((ks.length + k : Nat) : Int)
  | [], ks, r, h => by cases (Option.some.inj h); exact ⟨(fun s hs => nomatch hs), [], by rw [List.append_nil], rfl, fun k p hp => by simp at hp⟩
  | s :: l, ks, r, h => by
    unfold namesS at h
    split at h
    · cases h
    · rename_i hn
      have hn' : hasN ks s = false := by simpa using hn
      obtain ⟨h1, t, rfl, ht, hi⟩ := namesS_is l _ r h
      refine ⟨fun u hu => ?_, (s, (ks.length : Int)) :: t, by rw [List.append_assoc]; rfl, by rw [List.map_cons, ht], fun k p hp => ?_⟩
      · rcases List.mem_cons.mp hu with rfl | hu
        · exact hn'
        · have := h1 u hu
          unfold hasN at this ⊢
          rw [List.any_append, Bool.or_eq_false_iff] at this
          exact this.1
      · cases k with
        | zero => cases hp; rfl
        | succ k =>
          have := hi k p hp
          rw [List.length_append, List.length_singleton] at this
          rw [this]
          congr 1
          omega
theorem names_ord {l : List Str} {ks : List (Str × Int)} (h : namesS l [] = some ks) : ks.map (·.1) = l ∧ (∀ (k : Nat) s, l[k]? = some s → ks[k]? = some (s, (k : Int))) ∧ l.Nodup := by
  obtain ⟨_, t, e, ht, hi⟩ := namesS_is l [] ks h
  rw [List.nil_append] at e
  rw [← e] at ht hi
  refine ⟨ht, fun k s hs => ?_, ?_⟩
  · rw [← ht, List.getElem?_map] at hs
    cases hk : ks[k]? with
    | none => rw [hk] at hs; cases hs
    | some p =>
      rw [hk] at hs
      have h1 : p.1 = s := Option.some.inj hs
      have h2 := hi k p hk
      simp at h2
      rw [← h1, ← h2]
  · clear hi ht
    have key : ∀ (l : List Str) (ks r : List (Str × Int)), namesS l ks = some r → l.Nodup := by
      intro l
      induction l with
      | nil => intro _ _ _; exact List.nodup_nil
      | cons s l ih =>
        intro ks r h
        unfold namesS at h
        split at h
        · cases h
        · refine List.nodup_cons.mpr ⟨fun hm => ?_, ih _ _ h⟩
          have := (namesS_is l _ r h).1 s hm
          unfold hasN at this
          rw [List.any_append, Bool.or_eq_false_iff] at this
          simp at this
    exact key l [] ks h
section
variable {ss : List S} {cans : Int} {wk cl : Nat} {ks : List (Str × Int)}
theorem mk_garden (h : Sok ss cans wk cl) (hk : namesS (ss.map (·.nm)) [] = some ks) : dDef 4 [] (dMake mi_Garden .garden) [.lst ((ss.map S.p).map P.d), .int cans, .int wk, .int cl] = some (.ok (gdD (ss.map S.p) cans wk cl ks)) := by
  have hks : namesGo ((ss.map S.p).map P.d) [] = some (some ks) := by
    rw [namesGo_nm, List.map_map]
    exact congrArg some hk
  exact (def_all rfl).trans (make_ok (garden_ok (ps := ss.map S.p) (cans := cans) (week := wk) (closed := cl) (ks := ks) (by rw [List.length_map]; exact h.n1) (by rw [List.length_map]; exact h.n8) h.cn ⟨by have := h.w.1; omega, by have := h.w.2; omega⟩ (by omega) (closed_z h.c) hks h.gap (by rw [h.size]; have := h.z; omega)))
theorem garden_isk (h : Sok ss cans wk cl) (hk : namesS (ss.map (·.nm)) [] = some ks) : m_law_garden [spD3 ss cans wk cl] = some (.ret (gdD (ss.map S.p) cans wk cl ks)) := by
  obtain ⟨e2, e3, e4, hf⟩ := gd_go (sp := spD3 ss cans wk cl) ss [] .un .un .un h.g h.nm (by have := h.n8; simp; omega)
  rw [List.nil_append] at hf
  have s1 : sSetO 1 (eLst aNil) (startE 5 [spD3 ss cans wk cl]) = some (.nx [.fz (spD3 ss cans wk cl), .ow [], .un, .un, .un]) := rfl
  refine run_ret ((seq_nx s1).trans ((seq_nx (for_ev (ds := ss.map S.d) rfl hf)).trans ?_))
  show sRet _ [.fz (spD3 ss cans wk cl), .fz (.lst ((ss.map S.p).map P.d)), e2, e3, e4] = _
  exact ret_ev (call_ev (ds := [.lst ((ss.map S.p).map P.d), .int cans, .int wk, .int cl]) rfl (mk_garden h hk))
theorem Sok.withC (h : Sok ss cans wk cl) {c : Int} (hc : 0 ≤ c ∧ c ≤ 8) : Sok ss c wk cl := { h with cn := hc }
theorem Sok.take (h : Sok ss cans wk cl) {m : Nat} (hm : 1 ≤ m) : Sok (ss.take m) cans wk cl := by
  have hsub : ∀ s ∈ ss.take m, s ∈ ss := fun s hs => List.mem_of_mem_take hs
  have hd := List.take_append_drop m ss
  refine ⟨by rw [List.length_take]; have := h.n1; omega, by rw [List.length_take]; have := h.n8; omega, fun s hs => h.g s (hsub s hs), fun s hs => h.nm s (hsub s hs), ?_, h.cn, h.w, h.c, ?_⟩
  · obtain ⟨ks, hk⟩ := h.ks
    rw [← hd, List.map_append] at hk
    exact namesS_pre _ _ _ _ hk
  · have h1 : prodS 1 (ss.take m) ≤ prodS 1 ss := by
      have key : ∀ (a b : List S) (n : Nat), (∀ s ∈ b, 1 ≤ s.gap) → prodS n a ≤ prodS n (a ++ b) := by
        intro a
        induction a with
        | nil => intro b n hb; exact prodS_ge b n hb
        | cons s a ih => intro b n hb; exact ih b (n * s.gap.toNat) hb
      have := key (ss.take m) (ss.drop m) 1 (fun s hs => h.g1 s (List.mem_of_mem_drop hs))
      rw [hd] at this
      exact this
    have h2 : wk * prodS 1 (ss.take m) ≤ wk * prodS 1 ss := Nat.mul_le_mul_left _ h1
    have := h.z
    omega
/-- one pot with another gap -/
def regap (ss : List S) (k : Nat) (g : Int) : List S := match ss[k]? with
  | some s => ss.set k ⟨s.nm, g, s.rest⟩
  | none => ss
theorem regap_nm (k : Nat) (g : Int) : (regap ss k g).map (·.nm) = ss.map (·.nm) := by
  unfold regap
  cases e : ss[k]? with
  | none => rfl
  | some s =>
    show (ss.set k ⟨s.nm, g, s.rest⟩).map (·.nm) = _
    rw [List.map_set]
    apply List.ext_getElem?
    intro j
    rw [List.getElem?_set]
    by_cases hj : k = j
    · subst hj
      have hl := (List.getElem?_eq_some_iff.mp e).1
      rw [if_pos rfl, if_pos (by rw [List.length_map]; exact hl), List.getElem?_map, e]
      rfl
    · rw [if_neg hj]
theorem prodS_set : ∀ (ss : List S) (k : Nat) (s t : S) (n : Nat), ss[k]? = some s → prodS n (ss.set k t) * s.gap.toNat = prodS n ss * t.gap.toNat
  | [], k, s, t, n, h => by simp at h
  | a :: ss, 0, s, t, n, h => by
    cases h
    show prodS (n * t.gap.toNat) ss * a.gap.toNat = prodS (n * a.gap.toNat) ss * t.gap.toNat
    rw [prodS_mul ss (n * t.gap.toNat), prodS_mul ss (n * a.gap.toNat)]
    simp only [Nat.mul_assoc, Nat.mul_comm, Nat.mul_left_comm]
  | a :: ss, k + 1, s, t, n, h => by
    rw [List.set_cons_succ]
    exact prodS_set ss k s t (n * a.gap.toNat) h
theorem Sok.regap (h : Sok ss cans wk cl) {k : Nat} {s : S} {g : Int} (hs : ss[k]? = some s) (hg : 1 ≤ g ∧ g ≤ 60 ∧ s.rest < g) (hz : wk * prodS 1 (K06.regap ss k g) ≤ 20000) : Sok (K06.regap ss k g) cans wk cl := by
  have er : K06.regap ss k g = ss.set k ⟨s.nm, g, s.rest⟩ := by unfold K06.regap; rw [hs]
  have hmem : ∀ t ∈ K06.regap ss k g, t ∈ ss ∨ t = ⟨s.nm, g, s.rest⟩ := fun t ht => by
    rw [er] at ht
    exact List.mem_or_eq_of_mem_set ht
  have hlen : (K06.regap ss k g).length = ss.length := by rw [er, List.length_set]
  refine ⟨by rw [hlen]; exact h.n1, by rw [hlen]; exact h.n8, fun t ht => ?_, fun t ht => ?_, by rw [regap_nm]; exact h.ks, h.cn, h.w, h.c, hz⟩
  · rcases hmem t ht with q | q
    · exact h.g t q
    · rw [q]
      have := h.g s (List.mem_of_getElem? hs)
      exact ⟨hg.1, hg.2.1, this.2.2.1, hg.2.2⟩
  · rcases hmem t ht with q | q
    · exact h.nm t q
    · rw [q]; exact h.nm s (List.mem_of_getElem? hs)
theorem place_is (hk : namesS (ss.map (·.nm)) [] = some ks) {k : Nat} {s : S} (hs : ss[k]? = some s) : m_Garden_place [gdD (ss.map S.p) cans wk cl ks, .str s.nm] = some (.ret (Dn k)) := by
  obtain ⟨h1, h2, h3⟩ := names_ord hk
  have hn : (ss.map (·.nm))[k]? = some s.nm := by rw [List.getElem?_map, hs]; rfl
  have hkk := h2 k s.nm hn
  have hhas : hasN ks s.nm = true := by
    unfold hasN
    exact List.any_eq_true.mpr ⟨_, List.mem_of_getElem? hkk, by simp⟩
  have hfind : ks.find? (fun p => decide (p.1 = s.nm)) = some (s.nm, (k : Int)) := by
    cases hf : ks.find? (fun p => decide (p.1 = s.nm)) with
    | none =>
      have := List.find?_eq_none.mp hf _ (List.mem_of_getElem? hkk)
      simp at this
    | some p =>
      have hp1 : p.1 = s.nm := by have := List.find?_some hf; simpa using this
      obtain ⟨j, hj⟩ := List.mem_iff_getElem?.mp (List.mem_of_find?_eq_some hf)
      have hjn : (ss.map (·.nm))[j]? = some p.1 := by rw [← h1, List.getElem?_map, hj]; rfl
      have hjk : j = k := by
        have e : (ss.map (·.nm))[j]? = (ss.map (·.nm))[k]? := by rw [hjn, hn, hp1]
        exact (List.getElem?_inj (List.getElem?_eq_some_iff.mp hjn).1 h3).mp e
      subst hjk
      rw [hkk] at hj
      exact congrArg some (Option.some.inj hj).symm
  have e1 : eOp dNinO (eVarB 1) (e1 (dFld "order") (eVarB 0)) (startE 2 [gdD (ss.map S.p) cans wk cl ks, .str s.nm]) = some (.ok (.bl false)) := by
    refine op_ev (d := .str s.nm) (e := .ord ks) rfl rfl ?_
    show some (Except.ok (D.bl (!hasN ks s.nm))) = _
    rw [hhas]; rfl
  refine run_ret ((seq_nx (if_f (or_f (by rfl) (bT_ev e1)) rfl)).trans (ret_ev (op_ev (d := .ord ks) (e := .str s.nm) rfl rfl ?_)))
  show (match ks.find? (fun p => decide (p.1 = s.nm)) with | some q => ok (D.int q.2) | none => none) = _
  rw [hfind]
  rfl
theorem place_no {g : D} {x : Str} (hg : ∃ fs, g = .obj .garden fs ∧ dFld "order" g = some (.ok (.ord ks))) (hx : hasN ks x = false) : m_Garden_place [g, .str x] = some (.exc .noPot) := by
  obtain ⟨fs, rfl, hf⟩ := hg
  have e1 : eOp dNinO (eVarB 1) (e1 (dFld "order") (eVarB 0)) (startE 2 [.obj .garden fs, .str x]) = some (.ok (.bl true)) := by
    refine op_ev (d := .str x) (e := .ord ks) rfl (e1_ev (d := .obj .garden fs) rfl hf) ?_
    show some (Except.ok (D.bl (!hasN ks x))) = _
    rw [hx]; rfl
  exact run_exc (ρ := startE 2 [.obj .garden fs, .str x]) (seq_ex (if_t (or_f (by rfl) (bT_ev e1)) rfl))
theorem set_dp {k : Nat} {s : S} {g : Int} (hs : ss[k]? = some s) : ((ss.map S.p).map P.d).set k ((S.mk s.nm g s.rest).p.d) = ((K06.regap ss k g).map S.p).map P.d := by
  have er : K06.regap ss k g = ss.set k ⟨s.nm, g, s.rest⟩ := by unfold K06.regap; rw [hs]
  rw [er, List.map_set, List.map_set]
end
end K06
namespace K06
open PySem PySem.Spec PyProof.Rows L2 Tw
/-! ### refusals; whether a garden is as told -/
theorem op_er {h : D → D → EM D} {f g : Ro → EM D} {ρ : Ro} {d : D} {y : Xn} (h1 : f ρ = some (.ok d)) (h2 : g ρ = some (.error y)) : eOp h f g ρ = some (.error y) := by
  unfold eOp
  rw [h1, bnd_ok, h2]; rfl
theorem place_odd {gs : List D} {x : D} (h : dIs tab_str x = some (.ok (.bl false))) : m_Garden_place [.obj .garden gs, x] = some (.exc .noPot) :=
  run_exc (ρ := startE 2 [.obj .garden gs, x]) (seq_ex (if_t (or_t (not_tt _ _ false (bT_ev (e1_ev (d := x) rfl h)))) rfl))
def nmq (j : Nat) : Str := ["ivyq", "ivq", "fernq", "fernzq", "aq"].getD j ""
theorem nmq_ev (j : Nat) (h : j < 5) : dAddU (.str (nm5 j)) (.str "q") = some (.ok (.str (nmq j))) := by
  match j, h with
  | 0, _ => kernel_rfl
  | 1, _ => kernel_rfl
  | 2, _ => kernel_rfl
  | 3, _ => kernel_rfl
  | 4, _ => kernel_rfl
theorem nmq_ne (i j : Nat) (hi : i < 5) (hj : j < 5) : nm5 i ≠ nmq j := by
  have : ∀ i j : Fin 5, nm5 i.val ≠ nmq j.val := by decide +kernel
  exact this ⟨i, hi⟩ ⟨j, hj⟩
theorem nm5_sm (j : Nat) (h : j < 5) : smD (.str (nm5 j)) = true := by
  match j, h with
  | 0, _ => decide +kernel
  | 1, _ => decide +kernel
  | 2, _ => decide +kernel
  | 3, _ => decide +kernel
  | 4, _ => decide +kernel
theorem eq_tup {xs : List D} (h : okS (.tup xs) = true) : dEq (.tup xs) (.tup xs) = some (.ok (.bl true)) ∧ dNe (.tup xs) (.tup xs) = some (.ok (.bl false)) := by
  refine ⟨?_, ?_⟩
  · show (if fit (.tup xs) = true ∧ fit (.tup xs) = true then ok (D.bl (PyData.eqv (py (.tup xs)) (py (.tup xs)))) else none) = _
    rw [if_pos ⟨okS_fit h, okS_fit h⟩, SeqAt.eqv_refl _ (sm_lay _ (okS_parts h).1)]
    rfl
  · show (if fit (.tup xs) = true ∧ fit (.tup xs) = true then ok (D.bl (!PyData.eqv (py (.tup xs)) (py (.tup xs)))) else none) = _
    rw [if_pos ⟨okS_fit h, okS_fit h⟩, SeqAt.eqv_refl _ (sm_lay _ (okS_parts h).1)]
    rfl
theorem ok3 {a b c : Int} (ha : a.natAbs < 10 ^ 12) (hb : b.natAbs < 10 ^ 12) (hc : c.natAbs < 10 ^ 12) : okS (.tup [.int a, .int b, .int c]) = true := by
  show ((decide (a.natAbs < 10 ^ 12) && (decide (b.natAbs < 10 ^ 12) && (decide (c.natAbs < 10 ^ 12) && true))) && (decide (1 + (1 + (1 + 0)) + 1 ≤ 20000) && decide (max 0 (max 0 (max 0 0)) + 1 ≤ 60))) = true
  rw [decide_eq_true ha, decide_eq_true hb, decide_eq_true hc]; rfl
section
variable {ss : List S} {cans : Int} {wk cl : Nat} {ks : List (Str × Int)}
/-- names of the law's -/
def Nm (ss : List S) : Prop := ∀ s ∈ ss, ∃ j, j < 5 ∧ s.nm = nm5 j
theorem pots_ok (h : ∀ s ∈ ss, 1 ≤ s.gap ∧ s.gap ≤ 60 ∧ -1 ≤ s.rest ∧ s.rest < s.gap) (hn : Nm ss) (h8 : ss.length ≤ 8) : okS (.lst (ss.map S.d)) = true := by
  have key : ∀ d ∈ ss.map S.d, smD d = true ∧ szD d ≤ 4 ∧ dpD d ≤ 1 := fun d hd => by
    obtain ⟨s, hs, rfl⟩ := List.mem_map.mp hd
    obtain ⟨j, hj, e⟩ := hn s hs
    have hb := h s hs
    have h1 := nm5_sm j hj
    rw [← e] at h1
    refine ⟨?_, ?_, ?_⟩
    · show (smD (.str s.nm) && (decide (s.gap.natAbs < 10 ^ 12) && (decide (s.rest.natAbs < 10 ^ 12) && true))) = true
      rw [h1, decide_eq_true (by omega), decide_eq_true (by omega)]; rfl
    · show 1 + (1 + (1 + 0)) + 1 ≤ 4; omega
    · show max 0 (max 0 (max 0 0)) + 1 ≤ 1; omega
  have k1 := smL_all fun d hd => (key d hd).1
  have k2 := szL_le (b := 4) fun d hd => (key d hd).2.1
  have k3 := dpL_le (b := 1) fun d hd => (key d hd).2.2
  rw [List.length_map] at k2
  show (smL _ && (decide (szL _ + 1 ≤ 20000) && decide (dpL _ + 1 ≤ 60))) = true
  rw [k1, decide_eq_true (by omega), decide_eq_true (by omega)]; rfl
end
end K06
namespace K06
open PySem PySem.Spec PyProof.Rows L2 Tw
/-! ### names and their places -/
def idxS (s : Str) : List Str → Option Nat
  | [] => none
  | a :: l => if a = s then some 0 else (idxS s l).map (· + 1)
theorem idxS_cons (s a : Str) (l : List Str) : idxS s (a :: l) = if a = s then some 0 else (idxS s l).map (· + 1) := rfl
theorem idxS_get {s : Str} : ∀ {l : List Str} {k : Nat}, idxS s l = some k → l[k]? = some s
  | [], k, h => by cases h
  | a :: l, k, h => by
    rw [idxS_cons] at h
    split at h
    · rename_i e; cases h; rw [e]; rfl
    · obtain ⟨j, hj, rfl⟩ := Option.map_eq_some_iff.mp h
      exact idxS_get (l := l) hj
theorem idxS_none {s : Str} : ∀ {l : List Str}, idxS s l = none → s ∉ l
  | [], _ => by simp
  | a :: l, h => by
    rw [idxS_cons] at h
    split at h
    · cases h
    · rename_i e
      have := idxS_none (Option.map_eq_none_iff.mp h)
      intro hm
      rcases List.mem_cons.mp hm with q | q
      · exact e q.symm
      · exact this q
/-- what may stand in a row -/
def okN (d : D) : Prop := (∃ s, d = .str s ∧ smD (.str s) = true) ∨ d = .non ∨ d = .int 3 ∨ d = .lst [.str "ivy"]
def nmIx (l : List Str) (d : D) : Option Nat := match d with
  | .str s => idxS s l
  | _ => none
abbrev nmD (l : List Str) : D := .lst (l.map D.str)
def okL (l : List Str) : Prop := l.length ≤ 8 ∧ ∀ s ∈ l, smD (.str s) = true
theorem okL_fit {l : List Str} (h : okL l) : fit (nmD l) = true := by
  refine okS_fit ?_
  have k1 : smL (l.map D.str) = true := smL_all fun d hd => by obtain ⟨s, hs, rfl⟩ := List.mem_map.mp hd; exact h.2 s hs
  have k2 := szL_le (b := 1) (ds := l.map D.str) fun d hd => by obtain ⟨s, hs, rfl⟩ := List.mem_map.mp hd; exact Nat.le_refl _
  have k3 := dpL_le (b := 0) (ds := l.map D.str) fun d hd => by obtain ⟨s, hs, rfl⟩ := List.mem_map.mp hd; exact Nat.le_refl _
  rw [List.length_map] at k2
  show (smL _ && (decide (szL _ + 1 ≤ 20000) && decide (dpL _ + 1 ≤ 60))) = true
  have := h.1
  rw [k1, decide_eq_true (by omega), decide_eq_true (by omega)]; rfl
theorem okN_fit {d : D} (h : okN d) : fit d = true := by
  rcases h with ⟨s, rfl, hs⟩ | rfl | rfl | rfl
  · refine okS_fit ?_
    show (smD (.str s) && (decide (1 ≤ 20000) && decide (0 ≤ 60))) = true
    rw [hs]; rfl
  · exact okS_fit rfl
  · exact okS_fit (by decide +kernel)
  · exact okS_fit (by decide +kernel)
theorem any_str (s : Str) : ∀ l : List Str, ((pyL (l.map D.str)).any fun z => PyData.eqv z (py (.str s))) = (idxS s l).isSome
  | [] => by simp [pyL, idxS]
  | a :: l => by
    show (PyData.eqv (.str a) (.str s) || (pyL (l.map D.str)).any fun z => PyData.eqv z (py (.str s))) = _
    rw [any_str s l]
    have e : PyData.eqv (.str a) (.str s) = decide (a = s) := by
      simp only [PyData.eqv]
      first | rfl | exact (Bool.eq_iff_iff.mpr (by simp))
    rw [e, idxS_cons]
    by_cases q : a = s
    · rw [if_pos q, decide_eq_true q]; rfl
    · rw [if_neg q, decide_eq_false q]
      cases idxS s l <;> rfl
theorem any_no {p : PyData} (h : ∀ a : Str, PyData.eqv (.str a) p = false) : ∀ l : List Str, ((pyL (l.map D.str)).any fun z => PyData.eqv z p) = false
  | [] => by simp [pyL]
  | a :: l => by
    show (PyData.eqv (.str a) p || (pyL (l.map D.str)).any fun z => PyData.eqv z p) = _
    rw [any_no h l, h a]; rfl
theorem in_names {l : List Str} {d : D} (hl : okL l) (h : okN d) : dIn d (nmD l) = some (.ok (.bl (nmIx l d).isSome)) := by
  have key : ((pyL (l.map D.str)).any fun z => PyData.eqv z (py d)) = (nmIx l d).isSome := by
    rcases h with ⟨s, rfl, hs⟩ | rfl | rfl | rfl
    · exact any_str s l
    · exact any_no (fun a => by simp [PyData.eqv, py]) l
    · exact any_no (fun a => by simp [PyData.eqv, py]) l
    · exact any_no (fun a => by simp [PyData.eqv, py]) l
  show (if fit d = true ∧ fit (nmD l) = true then ok (D.bl ((pyL (l.map D.str)).any fun z => PyData.eqv z (py d))) else none) = _
  rw [if_pos ⟨okN_fit h, okL_fit hl⟩, key]
  rfl
theorem flats_str : ∀ l : List Str, flats (l.map D.str) = some (l.map V.str)
  | [] => rfl
  | a :: l => by
    show (match flat1 (.str a), flats (l.map D.str) with | some v, some vs => some (v :: vs) | _, _ => none) = _
    rw [flats_str l]; rfl
theorem fst_str (s : Str) : ∀ l : List Str, fstV (.str s) (l.map V.str) = idxS s l
  | [] => rfl
  | a :: l => by
    show (if eqV (.str a) (.str s) = true then some 0 else (fstV (.str s) (l.map V.str)).map (· + 1)) = _
    rw [fst_str s l, idxS_cons]
    have e : eqV (.str a) (.str s) = (a == s) := rfl
    by_cases q : a = s
    · rw [if_pos q, if_pos (by rw [e, q]; simp)]
    · rw [if_neg q, if_neg (by rw [e]; simpa using q)]
theorem index_is {l : List Str} {d : D} {k : Nat} (h : nmIx l d = some k) : dIndex (l.map D.str) [d] = some (.ok (Dn k)) := by
  cases d with
  | str s =>
    unfold dIndex
    rw [flats_str]
    dsimp only
    rw [show flat1 (.str s) = some (.str s) from rfl]
    dsimp only
    rw [fst_str, show idxS s l = some k from h]
    rfl
  | _ => cases h
section
variable {ss : List S} {cans : Int} {wk cl : Nat} {ks : List (Str × Int)}
abbrev nmS (ss : List S) : List Str := ss.map (·.nm)
theorem place_ev (hk : namesS (nmS ss) [] = some ks) {d : D} (h : okN d) : m_Garden_place [gdD (ss.map S.p) cans wk cl ks, d] = (match nmIx (nmS ss) d with | some k => some (.ret (Dn k)) | none => some (.exc .noPot)) := by
  rcases h with ⟨s, rfl, hs⟩ | rfl | rfl | rfl
  · show m_Garden_place [gdD (ss.map S.p) cans wk cl ks, .str s] = (match idxS s (nmS ss) with | some k => some (Out.ret (Dn k)) | none => some (Out.exc .noPot))
    cases hi : idxS s (nmS ss) with
    | some k =>
      have hg := idxS_get hi
      rw [List.getElem?_map] at hg
      cases ht : ss[k]? with
      | none => rw [ht] at hg; cases hg
      | some t =>
        rw [ht] at hg
        have e : t.nm = s := Option.some.inj hg
        rw [← e]
        exact place_is hk ht
    | none =>
      have hno := idxS_none hi
      refine place_no ⟨_, rfl, rfl⟩ ?_
      obtain ⟨h1, _, _⟩ := names_ord hk
      cases hb : hasN ks s with
      | false => rfl
      | true =>
        exfalso
        unfold hasN at hb
        obtain ⟨p, hp, e⟩ := List.any_eq_true.mp hb
        have hm : p.1 ∈ nmS ss := by rw [← h1]; exact List.mem_map.mpr ⟨p, hp, rfl⟩
        have e' : p.1 = s := by simpa using e
        exact hno (e' ▸ hm)
  · exact place_odd rfl
  · exact place_odd rfl
  · exact place_odd rfl
/-! ### a row's places -/
def wetR (l : List Str) (row : List D) : List Nat := row.filterMap (nmIx l)
theorem wetR_lt {row : List D} : ∀ k ∈ wetR (nmS ss) row, k < ss.length := fun k hk => by
  obtain ⟨d, hd, h⟩ := List.mem_filterMap.mp hk
  cases d with
  | str s =>
    have := idxS_get (show idxS s (nmS ss) = some k from h)
    have := (List.getElem?_eq_some_iff.mp this).1
    rwa [List.length_map] at this
  | _ => cases h
theorem wetR_len (l : List Str) : ∀ row : List D, (wetR l row).length ≤ row.length
  | [] => Nat.le_refl _
  | d :: row => by
    have := wetR_len l row
    unfold wetR at this ⊢
    rw [List.filterMap_cons]
    cases nmIx l d with
    | none => exact Nat.le_succ_of_le this
    | some k => exact Nat.succ_le_succ this
theorem wetR_all (l : List Str) : ∀ row : List D, row.all (fun d => (nmIx l d).isSome) = decide ((wetR l row).length = row.length)
  | [] => rfl
  | d :: row => by
    have ih := wetR_all l row
    have hl := wetR_len l row
    unfold wetR at ih hl ⊢
    rw [List.all_cons, ih, List.filterMap_cons]
    cases nmIx l d with
    | none =>
      show (false && _) = decide ((List.filterMap (nmIx l) row).length = row.length + 1)
      have hn : ¬ (List.filterMap (nmIx l) row).length = row.length + 1 := by omega
      rw [decide_eq_false hn, Bool.false_and]
    | some k =>
      show (true && _) = decide ((List.filterMap (nmIx l) row).length + 1 = row.length + 1)
      rw [Bool.true_and]
      exact decide_eq_decide.mpr (by omega)
theorem lcE_row (hk : namesS (nmS ss) [] = some ks) {e1 e2 e3 e4 e5 : Ent} : ∀ row : List D, (∀ d ∈ row, okN d) →
    lcE (gN 6) bYes (eMeth 2 tb_place dCall (eVar 0) (aCons (eVar 6) aNil)) [.fz (gdD (ss.map S.p) cans wk cl ks), e1, e2, e3, e4, e5, .un] row = if row.all (fun d => (nmIx (nmS ss) d).isSome) = true then some (.ok ((wetR (nmS ss) row).map Dn)) else some (.error .noPot)
  | [], _ => rfl
  | d :: row, h => by
    have ih := lcE_row hk (e1 := e1) (e2 := e2) (e3 := e3) (e4 := e4) (e5 := e5) row fun x hx => h x (List.mem_cons_of_mem _ hx)
    have hp := place_ev (cans := cans) (wk := wk) (cl := cl) hk (h d List.mem_cons_self)
    let ρ1 : Ro := [.fz (gdD (ss.map S.p) cans wk cl ks), e1, e2, e3, e4, e5, .fz d]
    have hm : ∀ r, dCall m_Garden_place [gdD (ss.map S.p) cans wk cl ks, d] = r → eMeth 2 tb_place dCall (eVar 0) (aCons (eVar 6) aNil) ρ1 = r := fun r q => meth_ev (m := m_Garden_place) (c := .garden) (ds := [d]) rfl rfl rfl rfl q
    unfold lcE
    rw [show gN 6 d [.fz (gdD (ss.map S.p) cans wk cl ks), e1, e2, e3, e4, e5, .un] = some ρ1 from rfl]
    dsimp only
    rw [show bYes ρ1 = some (.ok true) from rfl]
    dsimp only
    rw [List.all_cons]
    unfold wetR
    rw [List.filterMap_cons]
    cases hi : nmIx (nmS ss) d with
    | none =>
      rw [hi] at hp
      rw [hm _ (call_exc hp)]
      rfl
    | some k =>
      rw [hi] at hp
      rw [hm _ (call_ret hp)]
      dsimp only
      rw [ih]
      by_cases q : row.all (fun d => (nmIx (nmS ss) d).isSome) = true
      · rw [if_pos q, if_pos (by rw [q]; rfl)]; rfl
      · rw [if_neg q, if_neg (by simpa using q)]; rfl
end
/-! ### the bits of places -/
def orF : Nat → List Nat → Option Nat
  | b, [] => some b
  | b, p :: ws => if b.testBit p = true then none else orF (b ||| 2 ^ p) ws
theorem orF_some : ∀ (ws : List Nat) (b c : Nat), orF b ws = some c → ws.Nodup ∧ (∀ p ∈ ws, b.testBit p = false) ∧ ∀ k, c.testBit k = (b.testBit k || decide (k ∈ ws))
  | [], b, c, h => by cases h; exact ⟨List.nodup_nil, (fun p hp => nomatch hp), fun k => by simp⟩
  | p :: ws, b, c, h => by
    unfold orF at h
    split at h
    · cases h
    · rename_i hb
      have hb' : b.testBit p = false := by simpa using hb
      obtain ⟨h1, h2, h3⟩ := orF_some ws _ c h
      have hp : p ∉ ws := fun q => by
        have := h2 p q
        rw [Nat.testBit_or, Nat.testBit_two_pow_self, Bool.or_true] at this
        cases this
      refine ⟨List.nodup_cons.mpr ⟨hp, h1⟩, fun q hq => ?_, fun k => ?_⟩
      · rcases List.mem_cons.mp hq with rfl | hq
        · exact hb'
        · have := h2 q hq
          rw [Nat.testBit_or, Bool.or_eq_false_iff] at this
          exact this.1
      · rw [h3 k, Nat.testBit_or, Nat.testBit_two_pow, Bool.or_assoc]
        congr 1
        rw [Bool.eq_iff_iff, Bool.or_eq_true, decide_eq_true_eq, decide_eq_true_eq, decide_eq_true_eq, List.mem_cons]
        exact or_congr ⟨fun e => e.symm, fun e => e.symm⟩ Iff.rfl
theorem orF_none : ∀ (ws : List Nat) (b : Nat), orF b ws = none → ¬ (ws.Nodup ∧ ∀ p ∈ ws, b.testBit p = false)
  | [], b, h => by cases h
  | p :: ws, b, h => by
    rintro ⟨h1, h2⟩
    unfold orF at h
    rw [if_neg (by rw [h2 p List.mem_cons_self]; decide)] at h
    refine orF_none ws _ h ⟨(List.nodup_cons.mp h1).2, fun q hq => ?_⟩
    rw [Nat.testBit_or, Nat.testBit_two_pow, h2 q (List.mem_cons_of_mem _ hq), Bool.false_or]
    exact decide_eq_false fun e => (List.nodup_cons.mp h1).1 (e ▸ hq)
theorem or_ev (b p : Nat) : dOr (Dn b) (Dn (2 ^ p)) = some (.ok (Dn (b ||| 2 ^ p))) := by
  show some (Except.ok (D.int (Builtin.bitOr (b : Int) ((2 ^ p : Nat) : Int)))) = _
  rw [PyProof.Rows.bitOr_and, PyProof.Rows.bitAnd_pp (x := (b : Int)) (y := ((2 ^ p : Nat) : Int)) (Int.natCast_nonneg _) (Int.natCast_nonneg _), Int.toNat_natCast, Int.toNat_natCast]
  have := PyProof.Rows.nat_or_add_and b (2 ^ p)
  congr 3
  omega
section
variable {ss : List S} {cans : Int} {wk cl : Nat} {ks : List (Str × Int)}
abbrev bCb : Ro → Option Fl := (sSeq (sIf (bT (eOp dEq (eOp dAnd (eOp dShr (eVarB 3) (eVarB 5)) (eC (.int 1))) (eC (.int 1))))
        (sRaiseF .badDay (eVar 2))
        sNil)
      (sSet 3 (eOp dOr (eVarB 3) (eOp dShl (eC (.int 1)) (eVarB 5)))))
theorem cb_go {e0 e1 e4 e6 : Ent} {day : Int} : ∀ (ws : List Nat) (b : Nat) (e5 : Ent), (∀ p ∈ ws, p ≤ 1000) →
    (∃ c f5, orF b ws = some c ∧ forD (gN 5) bCb (ws.map Dn) [e0, e1, .fz (.int day), .fz (Dn b), e4, e5, e6] = some (.nx [e0, e1, .fz (.int day), .fz (Dn c), e4, f5, e6])) ∨
    (orF b ws = none ∧ ∃ ρ, forD (gN 5) bCb (ws.map Dn) [e0, e1, .fz (.int day), .fz (Dn b), e4, e5, e6] = some (.ex (.badDay day) ρ))
  | [], b, e5, _ => .inl ⟨b, e5, rfl, rfl⟩
  | p :: ws, b, e5, h => by
    let ρ1 : Ro := [e0, e1, .fz (.int day), .fz (Dn b), e4, .fz (Dn p), e6]
    have hb : bT (eOp dEq (eOp dAnd (eOp dShr (eVarB 3) (eVarB 5)) (eC (.int 1))) (eC (.int 1))) ρ1 = some (.ok (b.testBit p)) := bit_ev rfl rfl
    rw [List.map_cons]
    by_cases z : b.testBit p = true
    · rw [z] at hb
      refine .inr ⟨by unfold orF; rw [if_pos z], ρ1, for_ex (ρ1 := ρ1) rfl (seq_ex (if_t hb rfl))⟩
    · rw [show b.testBit p = false by simpa using z] at hb
      have hs : bCb ρ1 = some (.nx [e0, e1, .fz (.int day), .fz (Dn (b ||| 2 ^ p)), e4, .fz (Dn p), e6]) :=
        (seq_nx (if_f hb rfl)).trans (set_ev (i := 3) (op_ev (d := Dn b) (e := Dn (2 ^ p)) rfl (op_ev (d := .int 1) (e := Dn p) rfl rfl (shl_one p (h p List.mem_cons_self))) (or_ev b p)))
      have eo : orF b (p :: ws) = orF (b ||| 2 ^ p) ws := by
        show (if b.testBit p = true then none else orF (b ||| 2 ^ p) ws) = _
        rw [if_neg z]
      rw [eo, for_cons (ρ1 := ρ1) rfl hs]
      exact cb_go ws _ (.fz (Dn p)) fun q hq => h q (List.mem_cons_of_mem _ hq)
theorem chosen_is (hk : namesS (nmS ss) [] = some ks) (h8 : ss.length ≤ 8) {row : List D} (hr : ∀ d ∈ row, okN d) (hl : row.length ≤ 1000) {day : Int} :
    dDef 3 [] (dCall m_chosen_by) [gdD (ss.map S.p) cans wk cl ks, .lst row, .int day] = if row.all (fun d => (nmIx (nmS ss) d).isSome) = true then (match orF 0 (wetR (nmS ss) row) with | some c => some (.ok (Dn c)) | none => some (.error (.badDay day))) else some (.error .noPot) := by
  let g := gdD (ss.map S.p) cans wk cl ks
  let ρ0 : Ro := [.fz g, .fz (.lst row), .fz (.int day), .fz (Dn 0), .un, .un, .un]
  have s1 : sSet 3 (eC (.int 0)) (startE 7 [g, .lst row, .int day]) = some (.nx ρ0) := rfl
  have hlc : ∀ r, lcE (gN 6) bYes (eMeth 2 tb_place dCall (eVar 0) (aCons (eVar 6) aNil)) (wipeE ρ0 [6]) row = r → eLcE [6] (gN 6) (iOf (eVar 1)) bYes (eMeth 2 tb_place dCall (eVar 0) (aCons (eVar 6) aNil)) ρ0 = lcFin r := fun r q => by
    unfold eLcE
    rw [show iOf (eVar 1) ρ0 = some (.ok row) from rfl, bnd_ok, if_pos (by have := sizeLine_eq; omega), q]
  have e := hlc _ (lcE_row (cans := cans) (wk := wk) (cl := cl) hk row hr)
  by_cases q : row.all (fun d => (nmIx (nmS ss) d).isSome) = true
  · rw [if_pos q] at e ⊢
    let ρ1 : Ro := [.fz g, .fz (.lst row), .fz (.int day), .fz (Dn 0), .fz (.lst ((wetR (nmS ss) row).map Dn)), .un, .un]
    have s2 : sSet 4 (eLcE [6] (gN 6) (iOf (eVar 1)) bYes (eMeth 2 tb_place dCall (eVar 0) (aCons (eVar 6) aNil))) ρ0 = some (.nx ρ1) := set_ev (i := 4) e
    have h1000 : ∀ p ∈ wetR (nmS ss) row, p ≤ 1000 := fun p hp => by have := wetR_lt p hp; omega
    rcases cb_go (e0 := .fz g) (e1 := .fz (.lst row)) (e4 := .fz (.lst ((wetR (nmS ss) row).map Dn))) (e6 := .un) (day := day) (wetR (nmS ss) row) 0 .un h1000 with ⟨c, f5, h1, h2⟩ | ⟨h1, ρ, h2⟩
    · rw [h1]
      exact (def_all rfl).trans (call_ret (run_ret ((seq_nx s1).trans ((seq_nx s2).trans ((seq_nx (for_ev (ds := (wetR (nmS ss) row).map Dn) rfl h2)).trans rfl)))))
    · rw [h1]
      exact (def_all rfl).trans (call_exc (run_exc ((seq_nx s1).trans ((seq_nx s2).trans (seq_ex (for_ev (ds := (wetR (nmS ss) row).map Dn) rfl h2))))))
  · rw [if_neg q] at e ⊢
    exact (def_all rfl).trans (call_exc (run_exc ((seq_nx s1).trans (seq_ex (set_er e)))))
end
end K06
namespace K06
open PySem PySem.Spec PyProof.Rows L2 Tw
/-! ### a day by the places of a row -/
/-- the first pot that is dry -/
def dryF (c : Nat) : Nat → List Int → List S → Option Str
  | k, i :: is, s :: ss => if c.testBit k = true then dryF c (k + 1) is ss else if i + 1 = s.gap then some s.nm else dryF c (k + 1) is ss
  | _, _, _ => none
inductive Dy where
  | bad | dry (nm : Str) | ok (r : List Int)
section
variable {ss : List S} {cans week : Int} {cl dy : Nat} {is : List Int}
theorem l2_name {c : Nat} {zs : List Nat} (hz : ∀ k, k < ss.length → (k ∈ zs ↔ c.testBit k = true)) (hg : ∀ s ∈ ss, 1 ≤ s.gap) : ∀ (s1 : List S) (is1 : List Int) (k : Nat) (acc : List Int) (e9 e11 : Ent), ss.drop k = s1 → is.drop k = is1 → is1.length = s1.length → acc.length + s1.length ≤ 1000 →
    (∃ r e9' e11', bhF c k is1 (s1.map S.p) = some r ∧ forD (gN 9) bL2 ((List.range' k s1.length).map Dn) (roB ss cans week cl dy is zs e9 (.ow (acc.map D.int)) e11) = some (.nx (roB ss cans week cl dy is zs e9' (.ow ((acc ++ r).map D.int)) e11'))) ∨
    (bhF c k is1 (s1.map S.p) = none ∧ ∃ nm, dryF c k is1 s1 = some nm ∧ forD (gN 9) bL2 ((List.range' k s1.length).map Dn) (roB ss cans week cl dy is zs e9 (.ow (acc.map D.int)) e11) = some (.rt (.str nm)))
  | [], is1, k, acc, e9, e11, h1, h2, hl, _ => by
    have : is1 = [] := by cases is1 with | nil => rfl | cons _ _ => cases hl
    subst this
    exact .inl ⟨[], e9, e11, rfl, by rw [List.append_nil]; rfl⟩
  | s :: s1, [], k, acc, e9, e11, h1, h2, hl, _ => by cases hl
  | s :: s1, i :: is1, k, acc, e9, e11, h1, h2, hl, hy => by
    obtain ⟨g1, g2⟩ := drop_get h1
    obtain ⟨d1, d2⟩ := drop_get h2
    have hk : k < ss.length := (List.getElem?_eq_some_iff.mp g1).1
    have hgap := hg s (List.mem_of_getElem? g1)
    have ePd : (ss.map S.d)[k]? = some s.d := by rw [List.getElem?_map, g1]; rfl
    have eId : (is.map D.int)[k]? = some (.int i) := by rw [List.getElem?_map, d1]; rfl
    simp only [List.length_cons] at hl hy
    let far : Int := if c.testBit k = true then 0 else i + 1
    let ρ1 := roB ss cans week cl dy is zs (.fz (Dn k)) (.ow (acc.map D.int)) e11
    let ρ2 := roB ss cans week cl dy is zs (.fz (Dn k)) (.ow (acc.map D.int)) (.fz (.int far))
    have hin : bT (eOp dIn (eVarB 9) (eVarB 2)) ρ1 = some (.ok (c.testBit k)) := by
      refine bT_ev (op_ev (d := Dn k) (e := .lst (zs.map Dn)) rfl rfl ((in_nat k zs).trans ?_))
      have := hz k hk
      congr 3
      cases hb : c.testBit k with
      | true => exact decide_eq_true (this.mpr hb)
      | false => exact decide_eq_false (fun q => by have := this.mp q; rw [hb] at this; cases this)
    have hfar : sSet 11 (eIf (bT (eOp dIn (eVarB 9) (eVarB 2))) (eC (.int 0)) (eOp dAddU (eOp dIx (eVarB 8) (eVarB 9)) (eC (.int 1)))) ρ1 = some (.nx ρ2) := by
      refine set_ev (i := 11) (d := .int far) ?_
      unfold eIf
      rw [hin, bnd_ok]
      by_cases hb : c.testBit k = true
      · rw [if_pos hb, show far = 0 from if_pos hb]; rfl
      · rw [if_neg hb, show far = i + 1 from if_neg hb]
        exact op_ev (d := .int i) (e := .int 1) (op_ev (d := .tup (is.map D.int)) (e := Dn k) rfl rfl (ix_tup eId)) rfl rfl
    have eP : eOp dIx (eVarB 3) (eVarB 9) ρ2 = some (.ok s.d) := op_ev (d := .lst (ss.map S.d)) (e := Dn k) rfl rfl (ix_lst ePd)
    have hq : bT (eOp dEq (eVarB 11) (eOp dIx (eOp dIx (eVarB 3) (eVarB 9)) (eC (.int 1)))) ρ2 = some (.ok (decide (far = s.gap))) := bT_ev (op_ev (d := .int far) (e := .int s.gap) rfl (op_ev (d := s.d) (e := .int 1) eP rfl rfl) rfl)
    rw [List.length_cons, List.range'_succ, List.map_cons]
    have bh_cons : bhF c k (i :: is1) (s.p :: s1.map S.p) = if far = s.gap then none else (bhF c (k + 1) is1 (s1.map S.p)).map (far :: ·) := by
      show (if c.testBit k = true then (bhF c (k + 1) is1 (s1.map S.p)).map (0 :: ·) else if i + 1 = s.gap then none else (bhF c (k + 1) is1 (s1.map S.p)).map ((i + 1) :: ·)) = _
      by_cases hb : c.testBit k = true
      · rw [if_pos hb, show far = 0 from if_pos hb, if_neg (by omega)]
      · rw [if_neg hb, show far = i + 1 from if_neg hb]
    have dry_cons : dryF c k (i :: is1) (s :: s1) = if far = s.gap then some s.nm else dryF c (k + 1) is1 s1 := by
      show (if c.testBit k = true then dryF c (k + 1) is1 s1 else if i + 1 = s.gap then some s.nm else dryF c (k + 1) is1 s1) = _
      by_cases hb : c.testBit k = true
      · rw [if_pos hb, show far = 0 from if_pos hb, if_neg (by omega)]
      · rw [if_neg hb, show far = i + 1 from if_neg hb]
    by_cases hd : far = s.gap
    · rw [decide_eq_true hd] at hq
      refine .inr ⟨by rw [bh_cons, if_pos hd], s.nm, by rw [dry_cons, if_pos hd], for_rt (ρ1 := ρ1) rfl ((seq_nx hfar).trans (seq_rt (if_t hq (ret_ev (op_ev (d := s.d) (e := .int 0) eP rfl rfl)))))⟩
    · rw [decide_eq_false hd] at hq
      have hs : bL2 ρ1 = some (.nx (roB ss cans week cl dy is zs (.fz (Dn k)) (.ow ((acc ++ [far]).map D.int)) (.fz (.int far)))) := by
        refine (seq_nx hfar).trans ((seq_nx (if_f hq rfl)).trans ?_)
        rw [List.map_append]
        exact app_ev (i := 10) (ds := acc.map D.int) (d := .int far) rfl rfl (by rw [List.length_map]; omega)
      rcases l2_name hz hg s1 is1 (k + 1) (acc ++ [far]) (.fz (Dn k)) (.fz (.int far)) g2 d2 (by omega) (by simp; omega) with ⟨r, e9', e11', a, f⟩ | ⟨a, nm, hn, f⟩
      · refine .inl ⟨far :: r, e9', e11', by rw [bh_cons, if_neg hd, a]; rfl, (for_cons (ρ1 := ρ1) rfl hs).trans (f.trans ?_)⟩
        rw [List.append_assoc]; rfl
      · exact .inr ⟨by rw [bh_cons, if_neg hd, a]; rfl, nm, by rw [dry_cons, if_neg hd, hn], (for_cons (ρ1 := ρ1) rfl hs).trans f⟩

def dayF (ss : List S) (cans : Int) (cl dy : Nat) (is : List Int) (ws : List Nat) (c : Nat) : Dy := if (!decide (ws = []) && hind cl dy cans ws.length) = true then .bad else if ws.all (mayS ss is) = false then .bad else match bhF c 0 is (ss.map S.p) with
  | some r => .ok r
  | none => .dry ((dryF c 0 is ss).getD "")
def dyD (week : Int) (dy : Nat) : Dy → D
  | .bad => .non
  | .dry nm => .str nm
  | .ok r => nextD week dy r
theorem lbw_is (hl : is.length = ss.length) (h8 : ss.length ≤ 8) (hw : 0 < week) (hg : ∀ s ∈ ss, 1 ≤ s.gap) {c : Nat} {w : List Nat} (hz : ∀ k, k < ss.length → (k ∈ w ↔ c.testBit k = true)) (hlt : ∀ k ∈ w, k < ss.length) :
    m_law_behind [spD3 ss cans week cl, stD (Dn dy) is, .lst (w.map Dn)] = some (.ret (dyD week dy (dayF ss cans cl dy is w c))) := by
  have s1 : sUnp (gT (gsC (gN 3) (gsC (gN 4) (gsC (gN 5) (gsC (gN 6) gs0)))) 4) (eVar 0) (startE 12 [spD3 ss cans week cl, stD (Dn dy) is, .lst (w.map Dn)]) = some (.nx [.fz (spD3 ss cans week cl), .fz (stD (Dn dy) is), .fz (.lst (w.map Dn)), .fz (.lst (ss.map S.d)), .fz (.int cans), .fz (.int week), .fz (.int cl), .un, .un, .un, .un, .un]) := rfl
  have s2 : sUnp (gT (gsC (gN 7) (gsC (gN 8) gs0)) 2) (eVar 1) [.fz (spD3 ss cans week cl), .fz (stD (Dn dy) is), .fz (.lst (w.map Dn)), .fz (.lst (ss.map S.d)), .fz (.int cans), .fz (.int week), .fz (.int cl), .un, .un, .un, .un, .un] = some (.nx (roB ss cans week cl dy is w .un .un .un)) := rfl
  have b1 : bT (eOp dEq (eOp dAnd (eOp dShr (eVarB 6) (eVarB 7)) (eC (.int 1))) (eC (.int 1))) (roB ss cans week cl dy is w .un .un .un) = some (.ok (cl.testBit dy)) := bit_ev rfl rfl
  have b2 : bT (eOp dGt (eCall dLen (aCons (eVarB 2) aNil)) (eVarB 4)) (roB ss cans week cl dy is w .un .un .un) = some (.ok (decide (cans < (w.length : Int)))) := by
    refine bT_ev (op_ev (d := .int (w.map Dn).length) (e := .int cans) rfl rfl ?_)
    show some (Except.ok (D.bl (decide (cans < ((w.map Dn).length : Int))))) = _
    rw [List.length_map]
  have b0 : bT (eOp dNe (eVarB 2) (eLst aNil)) (roB ss cans week cl dy is w .un .un .un) = some (.ok (!decide (w = []))) := bT_ev (op_ev (d := .lst (w.map Dn)) (e := .lst []) rfl rfl (ne_nil w))
  have b3 : bAnd (bT (eOp dNe (eVarB 2) (eLst aNil))) (bOr (bT (eOp dEq (eOp dAnd (eOp dShr (eVarB 6) (eVarB 7)) (eC (.int 1))) (eC (.int 1)))) (bT (eOp dGt (eCall dLen (aCons (eVarB 2) aNil)) (eVarB 4)))) (roB ss cans week cl dy is w .un .un .un) = some (.ok (!decide (w = []) && hind cl dy cans w.length)) := by
    by_cases z : w = []
    · rw [decide_eq_true z] at b0 ⊢
      exact and_f b0
    · rw [decide_eq_false z] at b0 ⊢
      refine and_t b0 ?_
      unfold hind
      cases hb : cl.testBit dy with
      | true => rw [hb] at b1; exact or_t b1
      | false => rw [hb] at b1; exact or_f b1 b2
  unfold dayF
  by_cases z : (!decide (w = []) && hind cl dy cans w.length) = true
  · rw [if_pos z]
    rw [z] at b3
    exact run_ret ((seq_nx s1).trans ((seq_nx s2).trans (seq_rt (if_t b3 rfl))))
  · rw [if_neg z]
    rw [show (!decide (w = []) && hind cl dy cans w.length) = false by simpa using z] at b3
    rcases l1_go (cans := cans) (week := week) (cl := cl) (dy := dy) hl (zs := w) (e10 := .un) (e11 := .un) w .un hlt with ⟨a, e9, f⟩ | ⟨a, f⟩
    · rw [a, if_neg (by decide)]
      have rg : iRg dRng1 (aCons (eCall dLen (aCons (eVarB 3) aNil)) aNil) (roB ss cans week cl dy is w e9 (.ow []) .un) = some (.ok ((List.range' 0 ss.length).map Dn)) := by
        refine rg_ev (ds := [.int (ss.map S.d).length]) rfl ?_
        rw [List.length_map]
        exact rng1_is _ (by omega)
      rcases l2_name (cans := cans) (week := week) (cl := cl) (dy := dy) (c := c) (zs := w) hz hg ss is 0 [] e9 .un rfl rfl hl (by simp; omega) with ⟨r, e9', e11', a2, f2⟩ | ⟨a2, nm, hn, f2⟩
      · rw [a2]
        refine run_ret ((seq_nx s1).trans ((seq_nx s2).trans ((seq_nx (if_f b3 rfl)).trans ((seq_nx (for_ev (ds := w.map Dn) rfl f)).trans ((seq_nx (ρ' := roB ss cans week cl dy is w e9 (.ow []) .un) rfl).trans ((seq_nx (for_ev rg f2)).trans ?_))))))
        exact ret_ev (tup_ev (n := 2) (a_cons (op_ev (d := .int ((dy : Int) + 1)) (e := .int week) rfl rfl (mod_ev hw)) (a_cons (call_ev (ds := [.lst (r.map D.int)]) rfl rfl) rfl)) (Nat.le_refl 2))
      · rw [a2, hn]
        exact run_ret ((seq_nx s1).trans ((seq_nx s2).trans ((seq_nx (if_f b3 rfl)).trans ((seq_nx (for_ev (ds := w.map Dn) rfl f)).trans ((seq_nx (ρ' := roB ss cans week cl dy is w e9 (.ow []) .un) rfl).trans (seq_rt (for_ev rg f2)))))))
    · rw [a, if_pos rfl]
      exact run_ret ((seq_nx s1).trans ((seq_nx s2).trans ((seq_nx (if_f b3 rfl)).trans (seq_rt (for_ev (ds := w.map Dn) rfl f)))))
end
/-! ### counting without repeats -/
theorem len_sub {α : Type} [BEq α] [LawfulBEq α] : ∀ (a b : List α), a.Nodup → (∀ x ∈ a, x ∈ b) → a.length ≤ b.length
  | [], b, _, _ => Nat.zero_le _
  | x :: a, b, hn, h => by
    have hx := (List.nodup_cons.mp hn).1
    have hb := h x List.mem_cons_self
    have := len_sub a (b.erase x) (List.nodup_cons.mp hn).2 fun y hy => by
      have hne : y ≠ x := fun q => hx (q ▸ hy)
      exact (List.mem_erase_of_ne hne).mpr (h y (List.mem_cons_of_mem _ hy))
    rw [List.length_erase_of_mem hb] at this
    have h0 : 0 < b.length := List.length_pos_of_mem hb
    rw [List.length_cons]; omega
theorem dup_ex : ∀ {w : List Nat}, ¬ w.Nodup → ∃ a ∈ w, a ∈ w.erase a
  | [], h => absurd List.nodup_nil h
  | x :: w, h => by
    by_cases q : x ∈ w
    · exact ⟨x, List.mem_cons_self, by rw [List.erase_cons_head]; exact q⟩
    · obtain ⟨a, ha, h2⟩ := dup_ex (w := w) fun z => h (List.nodup_cons.mpr ⟨q, z⟩)
      have hne : x ≠ a := fun z => q (z ▸ ha)
      refine ⟨a, List.mem_cons_of_mem _ ha, ?_⟩
      rw [List.erase_cons_tail (by simpa using hne)]
      exact List.mem_cons_of_mem _ h2
theorem nod_len {n : Nat} {w : List Nat} (h : ∀ k ∈ w, k < n) : decide (((List.range' 0 n).filter fun k => decide (k ∈ w)).length < w.length) = !decide (w.Nodup) := by
  have hnd : ((List.range' 0 n).filter fun k => decide (k ∈ w)).Nodup := (List.nodup_range').sublist List.filter_sublist
  have hsub : ∀ x ∈ (List.range' 0 n).filter (fun k => decide (k ∈ w)), x ∈ w := fun x hx => by simpa using (List.mem_filter.mp hx).2
  by_cases z : w.Nodup
  · rw [decide_eq_true z]
    have := len_sub w ((List.range' 0 n).filter fun k => decide (k ∈ w)) z fun x hx => List.mem_filter.mpr ⟨List.mem_range'_1.mpr ⟨Nat.zero_le _, by have := h x hx; omega⟩, decide_eq_true hx⟩
    rw [decide_eq_false (by omega)]; rfl
  · rw [decide_eq_false z]
    obtain ⟨a, ha, h2⟩ := dup_ex z
    have := len_sub _ (w.erase a) hnd fun x hx => by
      by_cases q : x = a
      · rw [q]; exact h2
      · exact (List.mem_erase_of_ne q).mpr (hsub x hx)
    rw [List.length_erase_of_mem ha] at this
    have h0 : 0 < w.length := List.length_pos_of_mem ha
    rw [decide_eq_true (by omega)]; rfl
end K06
namespace K06
open PySem PySem.Spec PyProof.Rows L2 Tw
/-! ### a row, a plan -/
inductive Rw where
  | none | bad | dry (nm : Str) | ok (r : List Int)
def rowF (ss : List S) (cans : Int) (cl dy : Nat) (is : List Int) (row : List D) : Rw := if row.all (fun d => (nmIx (nmS ss) d).isSome) = true then
    (match orF 0 (wetR (nmS ss) row) with
    | none => .bad
    | some c => match dayF ss cans cl dy is (wetR (nmS ss) row) c with
      | .bad => .bad
      | .dry nm => .dry nm
      | .ok r => .ok r)
  else .none
inductive Pl where
  | none (k : Nat) | bad (k : Nat) | dry (k : Nat) (nm : Str) | kept (dy : Nat) (is : List Int)
def plF (ss : List S) (cans : Int) (wk cl : Nat) : Nat → Nat → List Int → List (List D) → Pl
  | _, dy, is, [] => .kept dy is
  | k, dy, is, row :: rows => match rowF ss cans cl dy is row with
    | .none => .none k
    | .bad => .bad k
    | .dry nm => .dry k nm
    | .ok r => plF ss cans wk cl (k + 1) ((dy + 1) % wk) r rows
/-- told by the law -/
def outL (first : Int) : Pl → D
  | .none k => .tup [.str "none", .int (first + k)]
  | .bad k => .tup [.str "bad", .int (first + k)]
  | .dry k nm => .tup [.str "dry", .int (first + k), .str nm]
  | .kept dy is => .tup [.str "kept", stD (Dn dy) is]
/-- told by the program -/
def outP (first : Int) : Pl → Out
  | .none k => .exc .noPot
  | .bad k => .exc (.badDay (first + k))
  | .dry k nm => .ret (.tup [.bl false, .int (first + k), .str nm])
  | .kept dy is => .ret (.tup [.bl true, stD (Dn dy) is])
theorem next_st (wk dy : Nat) (r : List Int) : nextD (wk : Int) dy r = stD (Dn ((dy + 1) % wk)) r := by
  unfold nextD
  have : ((dy : Int) + 1) % (wk : Int) = (((dy + 1) % wk : Nat) : Int) := by rw [show (dy : Int) + 1 = ((dy + 1 : Nat) : Int) by omega]; rfl
  rw [this]
theorem bitz_ev {f g : Ro → EM D} {ρ : Ro} {c k : Nat} (hf : f ρ = some (.ok (Dn c))) (hg : g ρ = some (.ok (Dn k))) : bT (eOp dEq (eOp dAnd (eOp dShr f g) (eC (.int 1))) (eC (.int 0))) ρ = some (.ok (!c.testBit k)) := by
  refine bT_ev (op_ev (d := .int ((c / 2 ^ k % 2 : Nat) : Int)) (e := .int 0) (op_ev (d := .int ((c / 2 ^ k : Nat) : Int)) (e := .int 1) (op_ev hf hg (shr_nat c k)) rfl (and_one _)) rfl ?_)
  rw [eq_i, Nat.testBit_eq_decide_div_mod_eq]
  congr 3
  have := Nat.mod_lt (c / 2 ^ k) (show 0 < 2 by decide)
  by_cases z : c / 2 ^ k % 2 = 1
  · rw [decide_eq_true z, decide_eq_false (by omega)]; rfl
  · rw [decide_eq_false z, decide_eq_true (by omega)]; rfl
section
variable {ss : List S} {cans : Int} {wk cl : Nat} {ks : List (Str × Int)} {dy : Nat} {is : List Int}
theorem row_bits {row : List D} {c : Nat} (h : orF 0 (wetR (nmS ss) row) = some c) : (wetR (nmS ss) row).Nodup ∧ (∀ k, c.testBit k = decide (k ∈ wetR (nmS ss) row)) ∧ c < 2 ^ ss.length := by
  obtain ⟨h1, _, h3⟩ := orF_some _ _ _ h
  have h3' : ∀ k, c.testBit k = decide (k ∈ wetR (nmS ss) row) := fun k => by rw [h3 k, Nat.zero_testBit, Bool.false_or]
  refine ⟨h1, h3', Nat.lt_pow_two_of_testBit _ fun i hi => ?_⟩
  rw [h3' i]
  exact decide_eq_false fun q => by have := wetR_lt i q; omega
theorem wet_same {w : List Nat} {c : Nat} (hn : w.Nodup) (hb : ∀ k, c.testBit k = decide (k ∈ w)) (hlt : ∀ k ∈ w, k < ss.length) : (wet ss.length c).length = w.length := by
  have hm : ∀ x, x ∈ wet ss.length c ↔ x ∈ w := fun x => by
    rw [wet_mem, hb x, decide_eq_true_eq]
    exact ⟨fun q => q.2, fun q => ⟨hlt x q, q⟩⟩
  have hnw : (wet ss.length c).Nodup := (List.nodup_range').sublist List.filter_sublist
  have h1 := len_sub _ w hnw fun x hx => (hm x).mp hx
  have h2 := len_sub w _ hn fun x hx => (hm x).mpr hx
  omega
/-- whether a day is allowed -/
theorem al_day (hi : okI is (ss.map S.p)) {w : List Nat} {c : Nat} (hn : w.Nodup) (hb : ∀ k, c.testBit k = decide (k ∈ w)) (hlt : ∀ k ∈ w, k < ss.length) (hc : c < 2 ^ ss.length) :
    alF (ss.map S.p) is cl dy cans (ss.map S.p).length c = !((!decide (w = []) && hind cl dy cans w.length) || !(w.all (mayS ss is))) := by
  have hlen := wet_same hn hb hlt
  have hc0 : c = 0 ↔ w = [] := by
    rw [← wet_nil hc]
    constructor <;> intro q
    · rw [q] at hlen; exact List.eq_nil_of_length_eq_zero hlen.symm
    · rw [q] at hlen; exact List.eq_nil_of_length_eq_zero hlen
  have hall : (wet ss.length c).all (mayK (ss.map S.p) is) = w.all (mayS ss is) := by
    rw [all_may hi]
    rw [Bool.eq_iff_iff, List.all_eq_true, List.all_eq_true]
    constructor <;> intro q k hk
    · exact q k (wet_mem.mpr ⟨hlt k hk, by rw [hb k]; exact decide_eq_true hk⟩)
    · obtain ⟨a, b⟩ := wet_mem.mp hk
      rw [hb k] at b
      exact q k (by simpa using b)
  unfold alF
  rw [List.length_map, hlen, hall]
  by_cases z : hind cl dy cans w.length = true
  · rw [if_pos z, z, Bool.and_true]
    by_cases y : w = []
    · rw [decide_eq_true y, decide_eq_true (hc0.mpr y), y]; rfl
    · rw [decide_eq_false y, decide_eq_false fun q => y (hc0.mp q)]; rfl
  · rw [if_neg z, show hind cl dy cans w.length = false by simpa using z, Bool.and_false, Bool.false_or, Bool.not_not]
abbrev bDr : Ro → Option Fl := (sIf (bAnd (bT (eOp dEq (eOp dAnd (eOp dShr (eVarB 2) (eVarB 4)) (eC (.int 1))) (eC (.int 0)))) (bT (eOp dEq (eOp dAddU (eOp dIx (eVarB 3) (eVarB 4)) (eC (.int 1))) (e1 (dFld "gap") (eOp dIx (e1 (dFld "pots") (eVarB 0)) (eVarB 4))))))
        (sRet (e1 (dFld "name") (eOp dIx (e1 (dFld "pots") (eVarB 0)) (eVarB 4)))) sNil)
theorem dry_go {c : Nat} : ∀ (s1 : List S) (is1 : List Int) (k : Nat) (e4 : Ent), ss.drop k = s1 → is.drop k = is1 → is1.length = s1.length →
    (dryF c k is1 s1 = none ∧ ∃ f4, forD (gN 4) bDr ((List.range' k s1.length).map Dn) [.fz (gdD (ss.map S.p) cans wk cl ks), .fz (stD (Dn dy) is), .fz (Dn c), .fz (.tup (is.map D.int)), e4] = some (.nx [.fz (gdD (ss.map S.p) cans wk cl ks), .fz (stD (Dn dy) is), .fz (Dn c), .fz (.tup (is.map D.int)), f4])) ∨
    (∃ nm, dryF c k is1 s1 = some nm ∧ forD (gN 4) bDr ((List.range' k s1.length).map Dn) [.fz (gdD (ss.map S.p) cans wk cl ks), .fz (stD (Dn dy) is), .fz (Dn c), .fz (.tup (is.map D.int)), e4] = some (.rt (.str nm)))
  | [], is1, k, e4, h1, h2, hl => by
    have : is1 = [] := by cases is1 with | nil => rfl | cons _ _ => cases hl
    subst this
    exact .inl ⟨rfl, e4, rfl⟩
  | s :: s1, [], k, e4, h1, h2, hl => by cases hl
  | s :: s1, i :: is1, k, e4, h1, h2, hl => by
    obtain ⟨g1, g2⟩ := drop_get h1
    obtain ⟨d1, d2⟩ := drop_get h2
    have ePd : ((ss.map S.p).map P.d)[k]? = some s.p.d := by rw [List.getElem?_map, List.getElem?_map, g1]; rfl
    have eId : (is.map D.int)[k]? = some (.int i) := by rw [List.getElem?_map, d1]; rfl
    simp only [List.length_cons] at hl
    let ρ1 : Ro := [.fz (gdD (ss.map S.p) cans wk cl ks), .fz (stD (Dn dy) is), .fz (Dn c), .fz (.tup (is.map D.int)), .fz (Dn k)]
    have hb : bT (eOp dEq (eOp dAnd (eOp dShr (eVarB 2) (eVarB 4)) (eC (.int 1))) (eC (.int 0))) ρ1 = some (.ok (!c.testBit k)) := bitz_ev rfl rfl
    have hP : eOp dIx (e1 (dFld "pots") (eVarB 0)) (eVarB 4) ρ1 = some (.ok s.p.d) := op_ev (d := .lst ((ss.map S.p).map P.d)) (e := Dn k) rfl rfl (ix_lst ePd)
    have hq : bT (eOp dEq (eOp dAddU (eOp dIx (eVarB 3) (eVarB 4)) (eC (.int 1))) (e1 (dFld "gap") (eOp dIx (e1 (dFld "pots") (eVarB 0)) (eVarB 4)))) ρ1 = some (.ok (decide (i + 1 = s.gap))) :=
      bT_ev (op_ev (d := .int (i + 1)) (e := .int s.gap) (op_ev (d := .int i) (e := .int 1) (op_ev (d := .tup (is.map D.int)) (e := Dn k) rfl rfl (ix_tup eId)) rfl rfl) (e1_ev hP s.p.gap_is) rfl)
    have nmf : dFld "name" s.p.d = some (.ok (.str s.nm)) := by
      unfold S.p P.d
      split <;> rfl
    rw [List.length_cons, List.range'_succ, List.map_cons]
    have dc : dryF c k (i :: is1) (s :: s1) = if c.testBit k = true then dryF c (k + 1) is1 s1 else if i + 1 = s.gap then some s.nm else dryF c (k + 1) is1 s1 := rfl
    have onward : bAnd (bT (eOp dEq (eOp dAnd (eOp dShr (eVarB 2) (eVarB 4)) (eC (.int 1))) (eC (.int 0)))) (bT (eOp dEq (eOp dAddU (eOp dIx (eVarB 3) (eVarB 4)) (eC (.int 1))) (e1 (dFld "gap") (eOp dIx (e1 (dFld "pots") (eVarB 0)) (eVarB 4))))) ρ1 = some (.ok false) → dryF c k (i :: is1) (s :: s1) = dryF c (k + 1) is1 s1 →
        ((dryF c k (i :: is1) (s :: s1) = none ∧ ∃ f4, forD (gN 4) bDr (Dn k :: (List.range' (k + 1) s1.length).map Dn) [.fz (gdD (ss.map S.p) cans wk cl ks), .fz (stD (Dn dy) is), .fz (Dn c), .fz (.tup (is.map D.int)), e4] = some (.nx [.fz (gdD (ss.map S.p) cans wk cl ks), .fz (stD (Dn dy) is), .fz (Dn c), .fz (.tup (is.map D.int)), f4])) ∨
        (∃ nm, dryF c k (i :: is1) (s :: s1) = some nm ∧ forD (gN 4) bDr (Dn k :: (List.range' (k + 1) s1.length).map Dn) [.fz (gdD (ss.map S.p) cans wk cl ks), .fz (stD (Dn dy) is), .fz (Dn c), .fz (.tup (is.map D.int)), e4] = some (.rt (.str nm)))) := fun hn he => by
      rcases dry_go s1 is1 (k + 1) (.fz (Dn k)) g2 d2 (by omega) with ⟨a, f4, f⟩ | ⟨nm, a, f⟩
      · exact .inl ⟨he.trans a, f4, (for_cons (ρ1 := ρ1) rfl (if_f hn rfl)).trans f⟩
      · exact .inr ⟨nm, he.trans a, (for_cons (ρ1 := ρ1) rfl (if_f hn rfl)).trans f⟩
    by_cases z : c.testBit k = true
    · rw [z] at hb
      exact onward (and_f hb) (by rw [dc, if_pos z])
    · rw [show c.testBit k = false by simpa using z] at hb
      by_cases y : i + 1 = s.gap
      · rw [decide_eq_true y] at hq
        exact .inr ⟨s.nm, by rw [dc, if_neg z, if_pos y], for_rt (ρ1 := ρ1) rfl (if_t (and_t hb hq) (ret_ev (e1_ev hP nmf)))⟩
      · rw [decide_eq_false y] at hq
        exact onward (and_t hb hq) (by rw [dc, if_neg z, if_neg y])
theorem drypot_is (hl : is.length = ss.length) (h8 : ss.length ≤ 8) {c : Nat} {nm : Str} (h : dryF c 0 is ss = some nm) : dDef 3 [] (dCall m_dry_pot) [gdD (ss.map S.p) cans wk cl ks, stD (Dn dy) is, Dn c] = some (.ok (.str nm)) := by
  have s1 : sSet 3 (eOp dIx (eVarB 1) (eC (.int 1))) (startE 5 [gdD (ss.map S.p) cans wk cl ks, stD (Dn dy) is, Dn c]) = some (.nx [.fz (gdD (ss.map S.p) cans wk cl ks), .fz (stD (Dn dy) is), .fz (Dn c), .fz (.tup (is.map D.int)), .un]) := rfl
  have rg : iRg dRng1 (aCons (eCall dLen (aCons (eVarB 3) aNil)) aNil) [.fz (gdD (ss.map S.p) cans wk cl ks), .fz (stD (Dn dy) is), .fz (Dn c), .fz (.tup (is.map D.int)), .un] = some (.ok ((List.range' 0 ss.length).map Dn)) := by
    refine rg_ev (ds := [.int (is.map D.int).length]) rfl ?_
    rw [List.length_map, hl]
    exact rng1_is _ (by omega)
  rcases dry_go (ss := ss) (cans := cans) (wk := wk) (cl := cl) (ks := ks) (dy := dy) (is := is) (c := c) ss is 0 .un rfl rfl hl with ⟨a, _⟩ | ⟨nm', a, f⟩
  · rw [h] at a; cases a
  · rw [h] at a
    cases a
    exact (def_all rfl).trans (call_ret (run_ret ((seq_nx s1).trans (seq_rt (for_ev rg f)))))
/-- a dry pot has a name -/
theorem bh_dry {c : Nat} : ∀ {is : List Int} {s1 : List S} {k : Nat}, bhF c k is (s1.map S.p) = none → ∃ nm, dryF c k is s1 = some nm
  | [], s1, k, h => by cases s1 <;> cases h
  | i :: is, [], k, h => by cases h
  | i :: is, s :: s1, k, h => by
    have h' : (if c.testBit k = true then (bhF c (k + 1) is (s1.map S.p)).map (0 :: ·) else if i + 1 = s.gap then none else (bhF c (k + 1) is (s1.map S.p)).map ((i + 1) :: ·)) = none := h
    show ∃ nm, (if c.testBit k = true then dryF c (k + 1) is s1 else if i + 1 = s.gap then some s.nm else dryF c (k + 1) is s1) = some nm
    split at h'
    · rename_i z
      obtain ⟨nm, e⟩ := bh_dry (Option.map_eq_none_iff.mp h')
      exact ⟨nm, by rw [if_pos z]; exact e⟩
    · rename_i z
      split at h'
      · rename_i y
        exact ⟨s.nm, by rw [if_neg z, if_pos y]⟩
      · rename_i y
        obtain ⟨nm, e⟩ := bh_dry (Option.map_eq_none_iff.mp h')
        exact ⟨nm, by rw [if_neg z, if_neg y]; exact e⟩
end
end K06
namespace K06
open PySem PySem.Spec PyProof.Rows L2 Tw
/-! ### a plan followed -/
section
variable {ss : List S} {cans : Int} {wk cl : Nat} {ks : List (Str × Int)}
noncomputable abbrev bFo : Ro → Option Fl := (sSeq (sSet 5 (eCall (dDef 3 [] (dCall m_chosen_by)) (aCons (eVar 0) (aCons (eOp dIx (eVarB 1) (eVarB 4)) (aCons (eOp dAddU (eVarB 3) (eVarB 4)) aNil)))))
      (sSeq (sIf (bNot (bT (eCall (dDef 3 [] (dCall m_allowed)) (aCons (eVar 0) (aCons (eVar 2) (aCons (eVar 5) aNil))))))
        (sRaiseF .badDay (eOp dAddU (eVarB 3) (eVarB 4)))
        sNil)
      (sSeq (sSet 6 (eCall (dDef 3 [] (dCall m_behind)) (aCons (eVar 0) (aCons (eVar 2) (aCons (eVar 5) aNil)))))
      (sSeq (sIf (bT (eOp dIsN (eVarB 6) (eC .non)))
        (sRet (eTup (aCons (eC (.bl false)) (aCons (eOp dAddU (eVarB 3) (eVarB 4)) (aCons (eCall (dDef 3 [] (dCall m_dry_pot)) (aCons (eVar 0) (aCons (eVar 2) (aCons (eVar 5) aNil)))) aNil)))))
        sNil)
      (sSet 2 (eVar 6))))))
abbrev rwD (rows : List (List D)) : D := .lst (rows.map D.lst)
abbrev roF (g : D) (rows : List (List D)) (first : Int) (dy : Nat) (is : List Int) (e4 e5 e6 : Ent) : Ro := [.fz g, .fz (rwD rows), .fz (stD (Dn dy) is), .fz (.int first), e4, e5, e6]
def FoR (g : D) (rows : List (List D)) (first : Int) (R : Option Fl) : Pl → Prop
  | .kept dy is => ∃ f4 f5 f6, R = some (.nx (roF g rows first dy is f4 f5 f6))
  | .dry j nm => R = some (.rt (.tup [.bl false, .int (first + j), .str nm]))
  | .bad j => ∃ ρ, R = some (.ex (.badDay (first + j)) ρ)
  | .none j => ∃ ρ, R = some (.ex .noPot ρ)
def okR (rows : List (List D)) : Prop := ∀ row ∈ rows, (∀ d ∈ row, okN d) ∧ row.length ≤ 8
theorem fo_go (h : Sok ss cans wk cl) (hk : namesS (nmS ss) [] = some ks) {rows : List (List D)} (hr : okR rows) {first : Int} : ∀ (rows1 : List (List D)) (k dy : Nat) (is : List Int) (e4 e5 e6 : Ent), rows.drop k = rows1 → dy < wk → okI is (ss.map S.p) →
    FoR (gdD (ss.map S.p) cans wk cl ks) rows first (forD (gN 4) bFo ((List.range' k rows1.length).map Dn) (roF (gdD (ss.map S.p) cans wk cl ks) rows first dy is e4 e5 e6)) (plF ss cans wk cl k dy is rows1)
  | [], k, dy, is, e4, e5, e6, _, _, _ => ⟨e4, e5, e6, rfl⟩
  | row :: rows1, k, dy, is, e4, e5, e6, hd, hdy, hi => by
    obtain ⟨g1, g2⟩ := drop_get hd
    have hrow := hr row (List.mem_of_getElem? g1)
    have eR : (rows.map D.lst)[k]? = some (.lst row) := by rw [List.getElem?_map, g1]; rfl
    have h8 : (ss.map S.p).length ≤ 8 := by rw [List.length_map]; exact h.n8
    have hl := okI_len hi
    have hl' : is.length = ss.length := by rw [hl, List.length_map]
    let g := gdD (ss.map S.p) cans wk cl ks
    let ρ1 := roF g rows first dy is (.fz (Dn k)) e5 e6
    have hday : eOp dAddU (eVarB 3) (eVarB 4) ρ1 = some (.ok (.int (first + k))) := rfl
    have hch : eCall (dDef 3 [] (dCall m_chosen_by)) (aCons (eVar 0) (aCons (eOp dIx (eVarB 1) (eVarB 4)) (aCons (eOp dAddU (eVarB 3) (eVarB 4)) aNil))) ρ1 = _ :=
      call_ev (ds := [g, .lst row, .int (first + k)]) (a_cons rfl (a_cons (op_ev (d := rwD rows) (e := Dn k) rfl rfl (ix_lst eR)) (a_cons hday rfl))) (chosen_is (cans := cans) (wk := wk) (cl := cl) hk h.n8 hrow.1 (by have := hrow.2; omega))
    rw [List.length_cons, List.range'_succ, List.map_cons]
    have hpl : plF ss cans wk cl k dy is (row :: rows1) = (match rowF ss cans cl dy is row with
      | .none => .none k
      | .bad => .bad k
      | .dry nm => .dry k nm
      | .ok r => plF ss cans wk cl (k + 1) ((dy + 1) % wk) r rows1) := rfl
    rw [hpl]
    unfold rowF
    by_cases q : row.all (fun d => (nmIx (nmS ss) d).isSome) = true
    · rw [if_pos q] at hch ⊢
      cases ho : orF 0 (wetR (nmS ss) row) with
      | none =>
        rw [ho] at hch
        exact ⟨ρ1, for_ex (ρ1 := ρ1) rfl (seq_ex (set_er hch))⟩
      | some c =>
        rw [ho] at hch
        obtain ⟨hn, hb, hc⟩ := row_bits ho
        have hlt : ∀ j ∈ wetR (nmS ss) row, j < ss.length := wetR_lt
        let ρ2 := roF g rows first dy is (.fz (Dn k)) (.fz (Dn c)) e6
        have s1 : sSet 5 (eCall (dDef 3 [] (dCall m_chosen_by)) (aCons (eVar 0) (aCons (eOp dIx (eVarB 1) (eVarB 4)) (aCons (eOp dAddU (eVarB 3) (eVarB 4)) aNil)))) ρ1 = some (.nx ρ2) := set_ev (i := 5) hch
        have hal : bNot (bT (eCall (dDef 3 [] (dCall m_allowed)) (aCons (eVar 0) (aCons (eVar 2) (aCons (eVar 5) aNil))))) ρ2 = some (.ok ((!decide (wetR (nmS ss) row = []) && hind cl dy cans (wetR (nmS ss) row).length) || !((wetR (nmS ss) row).all (mayS ss is)))) := by
          have := not_ev (ρ := ρ2) (call_ev (f := dDef 3 [] (dCall m_allowed)) (fs := aCons (eVar 0) (aCons (eVar 2) (aCons (eVar 5) aNil))) (ds := [g, stD (Dn dy) is, Dn c]) rfl ((def_all rfl).trans (call_ret (allowed_is (cans := cans) (week := (wk : Int)) (cl := cl) (dy := dy) (ks := ks) hl h8 (by rw [List.length_map]; exact hc)))))
          rw [al_day hi hn hb hlt hc, Bool.not_not] at this
          exact this
        have hex : ∀ (hbad : bNot (bT (eCall (dDef 3 [] (dCall m_allowed)) (aCons (eVar 0) (aCons (eVar 2) (aCons (eVar 5) aNil))))) ρ2 = some (.ok true)), ∃ ρ, forD (gN 4) bFo (Dn k :: (List.range' (k + 1) rows1.length).map Dn) (roF g rows first dy is e4 e5 e6) = some (.ex (.badDay (first + k)) ρ) := fun hbad =>
          ⟨ρ2, for_ex (ρ1 := ρ1) rfl ((seq_nx s1).trans (seq_ex (if_t hbad rfl)))⟩
        unfold dayF
        dsimp only
        by_cases z : (!decide (wetR (nmS ss) row = []) && hind cl dy cans (wetR (nmS ss) row).length) = true
        · rw [z, Bool.true_or] at hal
          rw [if_pos z]
          exact hex hal
        · rw [if_neg z]
          rw [show (!decide (wetR (nmS ss) row = []) && hind cl dy cans (wetR (nmS ss) row).length) = false by simpa using z, Bool.false_or] at hal
          by_cases y : (wetR (nmS ss) row).all (mayS ss is) = false
          · rw [y] at hal
            rw [if_pos y]
            exact hex hal
          · rw [if_neg y]
            rw [show (wetR (nmS ss) row).all (mayS ss is) = true by simpa using y] at hal
            have hbe : eCall (dDef 3 [] (dCall m_behind)) (aCons (eVar 0) (aCons (eVar 2) (aCons (eVar 5) aNil))) ρ2 = some (.ok (bhD (wk : Int) dy is (ss.map S.p) c)) :=
              call_ev (ds := [g, stD (Dn dy) is, Dn c]) rfl ((def_all rfl).trans (call_ret (behind_is (cans := cans) (cl := cl) (ks := ks) hl h8 (by have := h.w.1; omega))))
            unfold bhD at hbe
            cases hbh : bhF c 0 is (ss.map S.p) with
            | none =>
              rw [hbh] at hbe
              obtain ⟨nm, hdr⟩ := bh_dry hbh
              rw [hdr]
              let ρ3 := roF g rows first dy is (.fz (Dn k)) (.fz (Dn c)) (.fz .non)
              have s3 : sSet 6 (eCall (dDef 3 [] (dCall m_behind)) (aCons (eVar 0) (aCons (eVar 2) (aCons (eVar 5) aNil)))) ρ2 = some (.nx ρ3) := set_ev (i := 6) hbe
              have s4 := tup_ev (n := 3) (ρ := ρ3) (a_cons (f := eC (.bl false)) rfl (a_cons (f := eOp dAddU (eVarB 3) (eVarB 4)) (d := .int (first + k)) rfl (a_cons (call_ev (f := dDef 3 [] (dCall m_dry_pot)) (fs := aCons (eVar 0) (aCons (eVar 2) (aCons (eVar 5) aNil))) (ds := [g, stD (Dn dy) is, Dn c]) rfl (drypot_is hl' h.n8 hdr)) (show aNil ρ3 = _ from rfl)))) (Nat.le_refl 3)
              exact for_rt (ρ1 := ρ1) rfl ((seq_nx s1).trans ((seq_nx (if_f hal rfl)).trans ((seq_nx s3).trans (seq_rt (if_t (by rfl) (ret_ev s4))))))
            | some r =>
              rw [hbh] at hbe
              have hr' := bhF_ok hi h.gap hbh
              have hw0 : 0 < wk := h.w.1
              have hbe := hbe.trans (show some (Except.ok (nextD (wk : Int) dy r)) = some (Except.ok (stD (Dn ((dy + 1) % wk)) r)) by rw [next_st])
              let ρ3 := roF g rows first dy is (.fz (Dn k)) (.fz (Dn c)) (.fz (stD (Dn ((dy + 1) % wk)) r))
              have s3 : sSet 6 (eCall (dDef 3 [] (dCall m_behind)) (aCons (eVar 0) (aCons (eVar 2) (aCons (eVar 5) aNil)))) ρ2 = some (.nx ρ3) := set_ev (i := 6) hbe
              have hs : bFo ρ1 = some (.nx (roF g rows first ((dy + 1) % wk) r (.fz (Dn k)) (.fz (Dn c)) (.fz (stD (Dn ((dy + 1) % wk)) r)))) :=
                (seq_nx s1).trans ((seq_nx (if_f hal rfl)).trans ((seq_nx s3).trans ((seq_nx (if_f (by rfl) rfl)).trans rfl)))
              have ih := fo_go h hk hr (first := first) rows1 (k + 1) ((dy + 1) % wk) r (.fz (Dn k)) (.fz (Dn c)) (.fz (stD (Dn ((dy + 1) % wk)) r)) g2 (Nat.mod_lt _ hw0) hr'
              have hf : forD (gN 4) bFo (Dn k :: (List.range' (k + 1) rows1.length).map Dn) (roF g rows first dy is e4 e5 e6) = forD (gN 4) bFo ((List.range' (k + 1) rows1.length).map Dn) (roF g rows first ((dy + 1) % wk) r (.fz (Dn k)) (.fz (Dn c)) (.fz (stD (Dn ((dy + 1) % wk)) r))) := for_cons (ρ1 := ρ1) rfl hs
              rw [hf]
              exact ih
    · rw [if_neg q] at hch ⊢
      exact ⟨ρ1, for_ex (ρ1 := ρ1) rfl (seq_ex (set_er hch))⟩
theorem pl_ok (h : Sok ss cans wk cl) : ∀ (rows : List (List D)) (k dy : Nat) (is : List Int) {dy' : Nat} {is' : List Int}, dy < wk → okI is (ss.map S.p) → plF ss cans wk cl k dy is rows = .kept dy' is' → dy' < wk ∧ okI is' (ss.map S.p)
  | [], k, dy, is, dy', is', hd, hi, e => by cases e; exact ⟨hd, hi⟩
  | row :: rows, k, dy, is, dy', is', hd, hi, e => by
    have hpl : plF ss cans wk cl k dy is (row :: rows) = (match rowF ss cans cl dy is row with
      | .none => .none k
      | .bad => .bad k
      | .dry nm => .dry k nm
      | .ok r => plF ss cans wk cl (k + 1) ((dy + 1) % wk) r rows) := rfl
    rw [hpl] at e
    cases hR : rowF ss cans cl dy is row with
    | none => rw [hR] at e; cases e
    | bad => rw [hR] at e; cases e
    | dry nm => rw [hR] at e; cases e
    | ok r =>
      rw [hR] at e
      refine pl_ok h rows (k + 1) ((dy + 1) % wk) r (Nat.mod_lt _ h.w.1) ?_ e
      unfold rowF at hR
      split at hR
      · split at hR
        · cases hR
        · rename_i c hc
          unfold dayF at hR
          split at hR
          · cases hR
          · cases hR
          · rename_i r2 hr2
            cases hR
            split at hr2
            · cases hr2
            · split at hr2
              · cases hr2
              · split at hr2
                · rename_i r3 hr3
                  cases hr2
                  exact bhF_ok hi h.gap hr3
                · cases hr2
      · cases hR
theorem followed_is (h : Sok ss cans wk cl) (hk : namesS (nmS ss) [] = some ks) {rows : List (List D)} (hr : okR rows) (hrl : rows.length ≤ 1000) {first : Int} {dy : Nat} {is : List Int} (hd : dy < wk) (hi : okI is (ss.map S.p)) :
    m_followed [gdD (ss.map S.p) cans wk cl ks, rwD rows, stD (Dn dy) is, .int first] = some (outP first (plF ss cans wk cl 0 dy is rows)) := by
  let g := gdD (ss.map S.p) cans wk cl ks
  have s1 : sDrop (eMeth 2 tb_number dCall (eVar 0) (aCons (eVar 2) aNil)) (startE 7 [g, rwD rows, stD (Dn dy) is, .int first]) = some (.nx (roF g rows first dy is .un .un .un)) := drop_ev (meth_ev (m := m_Garden_number) (c := .garden) (ds := [stD (Dn dy) is]) rfl rfl rfl rfl (call_ret (number_of h hd hi)))
  have rg : iRg dRng1 (aCons (eCall dLen (aCons (eVarB 1) aNil)) aNil) (roF g rows first dy is .un .un .un) = some (.ok ((List.range' 0 rows.length).map Dn)) := by
    refine rg_ev (ds := [.int (rows.map D.lst).length]) rfl ?_
    rw [List.length_map]
    exact rng1_is _ (by omega)
  have hf := fo_go h hk hr (first := first) rows 0 dy is .un .un .un rfl hd hi
  cases hp : plF ss cans wk cl 0 dy is rows with
  | kept dy' is' =>
    rw [hp] at hf
    obtain ⟨f4, f5, f6, e⟩ := hf
    exact run_ret ((seq_nx s1).trans ((seq_nx (for_ev rg e)).trans rfl))
  | dry j nm =>
    rw [hp] at hf
    exact run_ret ((seq_nx s1).trans (seq_rt (for_ev rg hf)))
  | bad j =>
    rw [hp] at hf
    obtain ⟨ρ, e⟩ := hf
    exact run_exc ((seq_nx s1).trans (seq_ex (for_ev rg e)))
  | none j =>
    rw [hp] at hf
    obtain ⟨ρ, e⟩ := hf
    exact run_exc ((seq_nx s1).trans (seq_ex (for_ev rg e)))
end
end K06
namespace K06
open PySem PySem.Spec PyProof.Rows L2 Tw
/-! ### the law's own walk of a plan -/
section
variable {ss : List S} {cans : Int} {wk cl : Nat} {ks : List (Str × Int)}
abbrev bWk : Ro → Option Fl := (sSeq (sSet 6 (eLc [8] (gN 8) (iOf (eOp dIx (eVarB 1) (eVarB 5))) (bT (eOp dIn (eVarB 8) (eVarB 4))) (eLm dIndex (eVarB 4) (aCons (eVarB 8) aNil))))
      (sSeq (sIf (bT (eOp dLt (eCall dLen (aCons (eVarB 6) aNil)) (eCall dLen (aCons (eOp dIx (eVarB 1) (eVarB 5)) aNil))))
        (sRet (eTup (aCons (eC (.str "none")) (aCons (eOp dAddU (eVarB 3) (eVarB 5)) aNil))))
        sNil)
      (sSeq (sIf (bT (eOp dLt (eCall dLen (aCons (eLc [5] (gN 5) (iRg dRng1 (aCons (eCall dLen (aCons (eVarB 4) aNil)) aNil)) (bT (eOp dIn (eVarB 5) (eVarB 6))) (eVar 5)) aNil)) (eCall dLen (aCons (eVarB 6) aNil))))
        (sRet (eTup (aCons (eC (.str "bad")) (aCons (eOp dAddU (eVarB 3) (eVarB 5)) aNil))))
        sNil)
      (sSeq (sSet 7 (eCall (dDef 3 [] (dCall m_law_behind)) (aCons (eVar 0) (aCons (eVar 2) (aCons (eVar 6) aNil)))))
      (sSeq (sIf (bT (eOp dIsN (eVarB 7) (eC .non)))
        (sRet (eTup (aCons (eC (.str "bad")) (aCons (eOp dAddU (eVarB 3) (eVarB 5)) aNil))))
        sNil)
      (sSeq (sIf (bNot (bT (e1 (dIs tab_tuple) (eVarB 7))))
        (sRet (eTup (aCons (eC (.str "dry")) (aCons (eOp dAddU (eVarB 3) (eVarB 5)) (aCons (eVar 7) aNil)))))
        sNil)
      (sSet 2 (eVar 7))))))))
abbrev roW (sp : D) (rows : List (List D)) (st : D) (first : Int) (l : List Str) (e5 e6 e7 : Ent) : Ro := [.fz sp, .fz (rwD rows), .fz st, .fz (.int first), .fz (nmD l), e5, e6, e7, .un, .un, .un]
theorem lcD_row {sp st : D} {rows : List (List D)} {first : Int} {l : List Str} {e5 e6 e7 : Ent} (hl : okL l) : ∀ row : List D, (∀ d ∈ row, okN d) →
    lcD (gN 8) (bT (eOp dIn (eVarB 8) (eVarB 4))) (eLm dIndex (eVarB 4) (aCons (eVarB 8) aNil)) (roW sp rows st first l e5 e6 e7) row = some ((wetR l row).map Dn)
  | [], _ => rfl
  | d :: row, h => by
    have ih := lcD_row (sp := sp) (st := st) (rows := rows) (first := first) (e5 := e5) (e6 := e6) (e7 := e7) hl row fun x hx => h x (List.mem_cons_of_mem _ hx)
    let ρ1 : Ro := [.fz sp, .fz (rwD rows), .fz st, .fz (.int first), .fz (nmD l), e5, e6, e7, .fz d, .un, .un]
    have hin : bT (eOp dIn (eVarB 8) (eVarB 4)) ρ1 = some (.ok (nmIx l d).isSome) := bT_ev (op_ev (d := d) (e := nmD l) rfl rfl (in_names hl (h d List.mem_cons_self)))
    unfold lcD
    rw [show gN 8 d (roW sp rows st first l e5 e6 e7) = some ρ1 from rfl]
    dsimp only
    rw [hin]
    unfold wetR
    rw [List.filterMap_cons]
    cases hi : nmIx l d with
    | none => exact ih
    | some k =>
      have he : eLm dIndex (eVarB 4) (aCons (eVarB 8) aNil) ρ1 = some (.ok (Dn k)) := by
        unfold eLm
        rw [show eVarB 4 ρ1 = some (.ok (nmD l)) from rfl, bnd_ok]
        dsimp only
        rw [show aCons (eVarB 8) aNil ρ1 = some (.ok [d]) from rfl, bnd_ok]
        exact index_is hi
      show (match eLm dIndex (eVarB 4) (aCons (eVarB 8) aNil) ρ1 with | some (.ok y) => (lcD (gN 8) (bT (eOp dIn (eVarB 8) (eVarB 4))) (eLm dIndex (eVarB 4) (aCons (eVarB 8) aNil)) (roW sp rows st first l e5 e6 e7) row).map (y :: ·) | _ => none) = _
      rw [he]
      dsimp only
      rw [ih]; rfl
def WkR (sp : D) (rows : List (List D)) (first : Int) (l : List Str) (R : Option Fl) : Pl → Prop
  | .kept dy is => ∃ f5 f6 f7, R = some (.nx (roW sp rows (stD (Dn dy) is) first l f5 f6 f7))
  | p => R = some (.rt (outL first p))
theorem wk_go (h : Sok ss cans wk cl) (hl : okL (nmS ss)) {rows : List (List D)} (hr : okR rows) {first : Int} : ∀ (rows1 : List (List D)) (k dy : Nat) (is : List Int) (e5 e6 e7 : Ent), rows.drop k = rows1 → dy < wk → okI is (ss.map S.p) →
    WkR (spD3 ss cans wk cl) rows first (nmS ss) (forD (gN 5) bWk ((List.range' k rows1.length).map Dn) (roW (spD3 ss cans wk cl) rows (stD (Dn dy) is) first (nmS ss) e5 e6 e7)) (plF ss cans wk cl k dy is rows1)
  | [], k, dy, is, e5, e6, e7, _, _, _ => ⟨e5, e6, e7, rfl⟩
  | row :: rows1, k, dy, is, e5, e6, e7, hd, hdy, hi => by
    obtain ⟨g1, g2⟩ := drop_get hd
    have hrow := hr row (List.mem_of_getElem? g1)
    have eR : (rows.map D.lst)[k]? = some (.lst row) := by rw [List.getElem?_map, g1]; rfl
    have hlen := okI_len hi
    have hlen' : is.length = ss.length := by rw [hlen, List.length_map]
    let sp := spD3 ss cans wk cl
    let w := wetR (nmS ss) row
    let ρ := fun (e6 e7 : Ent) => roW sp rows (stD (Dn dy) is) first (nmS ss) (.fz (Dn k)) e6 e7
    have eRow : ∀ e6 e7, eOp dIx (eVarB 1) (eVarB 5) (ρ e6 e7) = some (.ok (.lst row)) := fun e6 e7 => op_ev (d := rwD rows) (e := Dn k) rfl rfl (ix_lst eR)
    have s1 : sSet 6 (eLc [8] (gN 8) (iOf (eOp dIx (eVarB 1) (eVarB 5))) (bT (eOp dIn (eVarB 8) (eVarB 4))) (eLm dIndex (eVarB 4) (aCons (eVarB 8) aNil))) (ρ e6 e7) = some (.nx (ρ (.fz (.lst (w.map Dn))) e7)) := by
      refine set_ev (i := 6) (lc_ev (ds := row) (iof_ev (eRow e6 e7)) (lcD_row hl row hrow.1) ?_)
      have := wetR_len (nmS ss) row
      have := hrow.2
      rw [List.length_map]
      show (wetR (nmS ss) row).length ≤ 100000
      omega
    have b2 : bT (eOp dLt (eCall dLen (aCons (eVarB 6) aNil)) (eCall dLen (aCons (eOp dIx (eVarB 1) (eVarB 5)) aNil))) (ρ (.fz (.lst (w.map Dn))) e7) = some (.ok (!(row.all fun d => (nmIx (nmS ss) d).isSome))) := by
      refine bT_ev (op_ev (d := .int (w.map Dn).length) (e := .int row.length) rfl (call_ev (ds := [.lst row]) (a_cons (eRow _ _) rfl) rfl) ?_)
      show some (Except.ok (D.bl (decide (((w.map Dn).length : Int) < (row.length : Int))))) = _
      rw [List.length_map, wetR_all]
      have := wetR_len (nmS ss) row
      by_cases q : (wetR (nmS ss) row).length = row.length
      · rw [decide_eq_true q, decide_eq_false (by show ¬ ((wetR (nmS ss) row).length : Int) < _; omega)]; rfl
      · rw [decide_eq_false q, decide_eq_true (by show ((wetR (nmS ss) row).length : Int) < _; omega)]; rfl
    rw [List.length_cons, List.range'_succ, List.map_cons]
    have hpl : plF ss cans wk cl k dy is (row :: rows1) = (match rowF ss cans cl dy is row with
      | .none => .none k
      | .bad => .bad k
      | .dry nm => .dry k nm
      | .ok r => plF ss cans wk cl (k + 1) ((dy + 1) % wk) r rows1) := rfl
    rw [hpl]
    unfold rowF
    by_cases q : row.all (fun d => (nmIx (nmS ss) d).isSome) = true
    · rw [if_pos q]
      rw [q] at b2
      have hlt : ∀ j ∈ w, j < ss.length := wetR_lt
      have b3 : bT (eOp dLt (eCall dLen (aCons (eLc [5] (gN 5) (iRg dRng1 (aCons (eCall dLen (aCons (eVarB 4) aNil)) aNil)) (bT (eOp dIn (eVarB 5) (eVarB 6))) (eVar 5)) aNil)) (eCall dLen (aCons (eVarB 6) aNil))) (ρ (.fz (.lst (w.map Dn))) e7) = some (.ok (!decide w.Nodup)) := by
        have hrg : iRg dRng1 (aCons (eCall dLen (aCons (eVarB 4) aNil)) aNil) (ρ (.fz (.lst (w.map Dn))) e7) = some (.ok ((List.range' 0 ss.length).map Dn)) := by
          refine rg_ev (ds := [.int ((nmS ss).map D.str).length]) rfl ?_
          rw [List.length_map, List.length_map]
          exact rng1_is _ (by have := h.n8; omega)
        have hl1 : eLc [5] (gN 5) (iRg dRng1 (aCons (eCall dLen (aCons (eVarB 4) aNil)) aNil)) (bT (eOp dIn (eVarB 5) (eVarB 6))) (eVar 5) (ρ (.fz (.lst (w.map Dn))) e7) = some (.ok (.lst (((List.range' 0 ss.length).filter fun j => decide (j ∈ w)).map Dn))) := by
          refine lc_ev hrg ?_ ?_
          · rw [lc_filter (b := fun d => match d with | .int i => decide (i.toNat ∈ w) | _ => false) (F := fun d => d)]
            · rw [List.map_id']
              have e : ((List.range' 0 ss.length).map Dn).filter (fun d => match d with | .int i => decide (i.toNat ∈ w) | _ => false) = ((List.range' 0 ss.length).filter fun j => decide (j ∈ w)).map Dn := List.filter_map
              exact congrArg some e
            · intro d hdm
              obtain ⟨j, hj, rfl⟩ := List.mem_map.mp hdm
              exact ⟨_, rfl, bT_ev (op_ev (d := Dn j) (e := .lst (w.map Dn)) rfl rfl (in_nat j w)), rfl⟩
          · rw [List.length_map]
            have := List.length_filter_le (fun j => decide (j ∈ w)) (List.range' 0 ss.length)
            rw [List.length_range'] at this
            have := h.n8
            omega
        refine bT_ev (op_ev (d := .int (((List.range' 0 ss.length).filter fun j => decide (j ∈ w)).map Dn).length) (e := .int (w.map Dn).length) (call_ev (ds := [.lst (((List.range' 0 ss.length).filter fun j => decide (j ∈ w)).map Dn)]) (a_cons hl1 rfl) rfl) rfl ?_)
        show some (Except.ok (D.bl (decide (((((List.range' 0 ss.length).filter fun j => decide (j ∈ w)).map Dn).length : Int) < ((w.map Dn).length : Int))))) = _
        rw [List.length_map, List.length_map, ← nod_len hlt]
        generalize ((List.range' 0 ss.length).filter fun j => decide (j ∈ w)).length = A
        generalize w.length = B
        rw [show decide ((A : Int) < (B : Int)) = decide (A < B) from decide_eq_decide.mpr (by omega)]
      cases ho : orF 0 (wetR (nmS ss) row) with
      | none =>
        have hnn : ¬ w.Nodup := fun z => orF_none _ _ ho ⟨z, fun p _ => Nat.zero_testBit p⟩
        rw [decide_eq_false hnn] at b3
        exact for_rt (ρ1 := ρ e6 e7) rfl ((seq_nx s1).trans ((seq_nx (if_f b2 rfl)).trans (seq_rt (if_t b3 rfl))))
      | some c =>
        obtain ⟨hn, hb, hc⟩ := row_bits ho
        rw [decide_eq_true hn] at b3
        have hbe : eCall (dDef 3 [] (dCall m_law_behind)) (aCons (eVar 0) (aCons (eVar 2) (aCons (eVar 6) aNil))) (ρ (.fz (.lst (w.map Dn))) e7) = some (.ok (dyD (wk : Int) dy (dayF ss cans cl dy is w c))) :=
          call_ev (ds := [sp, stD (Dn dy) is, .lst (w.map Dn)]) rfl ((def_all rfl).trans (call_ret (lbw_is hlen' h.n8 (by have := h.w.1; omega) h.g1 (fun j _ => by rw [hb j, decide_eq_true_eq]) hlt)))
        show WkR _ _ _ _ _ (match (match dayF ss cans cl dy is (wetR (nmS ss) row) c with
          | .bad => Rw.bad
          | .dry nm => .dry nm
          | .ok r => .ok r) with
          | .none => Pl.none k
          | .bad => .bad k
          | .dry nm => .dry k nm
          | .ok r => plF ss cans wk cl (k + 1) ((dy + 1) % wk) r rows1)
        cases hdf : dayF ss cans cl dy is (wetR (nmS ss) row) c with
        | bad =>
          rw [show dayF ss cans cl dy is w c = _ from hdf] at hbe
          have s4 : sSet 7 (eCall (dDef 3 [] (dCall m_law_behind)) (aCons (eVar 0) (aCons (eVar 2) (aCons (eVar 6) aNil)))) (ρ (.fz (.lst (w.map Dn))) e7) = some (.nx (ρ (.fz (.lst (w.map Dn))) (.fz .non))) := set_ev (i := 7) hbe
          exact for_rt (ρ1 := ρ e6 e7) rfl ((seq_nx s1).trans ((seq_nx (if_f b2 rfl)).trans ((seq_nx (if_f b3 rfl)).trans ((seq_nx s4).trans (seq_rt (if_t (by rfl) rfl))))))
        | dry nm =>
          rw [show dayF ss cans cl dy is w c = _ from hdf] at hbe
          have s4 : sSet 7 (eCall (dDef 3 [] (dCall m_law_behind)) (aCons (eVar 0) (aCons (eVar 2) (aCons (eVar 6) aNil)))) (ρ (.fz (.lst (w.map Dn))) e7) = some (.nx (ρ (.fz (.lst (w.map Dn))) (.fz (.str nm)))) := set_ev (i := 7) hbe
          exact for_rt (ρ1 := ρ e6 e7) rfl ((seq_nx s1).trans ((seq_nx (if_f b2 rfl)).trans ((seq_nx (if_f b3 rfl)).trans ((seq_nx s4).trans ((seq_nx (if_f (by rfl) rfl)).trans (seq_rt (if_t (by rfl) rfl)))))))
        | ok r =>
          rw [show dayF ss cans cl dy is w c = _ from hdf] at hbe
          have hbe := hbe.trans (show some (Except.ok (nextD (wk : Int) dy r)) = some (Except.ok (stD (Dn ((dy + 1) % wk)) r)) by rw [next_st])
          have s4 : sSet 7 (eCall (dDef 3 [] (dCall m_law_behind)) (aCons (eVar 0) (aCons (eVar 2) (aCons (eVar 6) aNil)))) (ρ (.fz (.lst (w.map Dn))) e7) = some (.nx (ρ (.fz (.lst (w.map Dn))) (.fz (stD (Dn ((dy + 1) % wk)) r)))) := set_ev (i := 7) hbe
          have hs : bWk (ρ e6 e7) = some (.nx (roW sp rows (stD (Dn ((dy + 1) % wk)) r) first (nmS ss) (.fz (Dn k)) (.fz (.lst (w.map Dn))) (.fz (stD (Dn ((dy + 1) % wk)) r)))) :=
            (seq_nx s1).trans ((seq_nx (if_f b2 rfl)).trans ((seq_nx (if_f b3 rfl)).trans ((seq_nx s4).trans ((seq_nx (if_f (by rfl) rfl)).trans ((seq_nx (if_f (by rfl) rfl)).trans rfl)))))
          have hok : okI r (ss.map S.p) := by
            have := pl_ok h [row] k dy is (dy' := (dy + 1) % wk) (is' := r) hdy hi (by
              show (match rowF ss cans cl dy is row with
                | .none => Pl.none k
                | .bad => .bad k
                | .dry nm => .dry k nm
                | .ok r => plF ss cans wk cl (k + 1) ((dy + 1) % wk) r []) = _
              unfold rowF
              rw [if_pos q, ho]
              dsimp only
              rw [hdf]
              rfl)
            exact this.2
          have ih := wk_go h hl hr (first := first) rows1 (k + 1) ((dy + 1) % wk) r (.fz (Dn k)) (.fz (.lst (w.map Dn))) (.fz (stD (Dn ((dy + 1) % wk)) r)) g2 (Nat.mod_lt _ h.w.1) hok
          have hf : forD (gN 5) bWk (Dn k :: (List.range' (k + 1) rows1.length).map Dn) (roW sp rows (stD (Dn dy) is) first (nmS ss) e5 e6 e7) = forD (gN 5) bWk ((List.range' (k + 1) rows1.length).map Dn) (roW sp rows (stD (Dn ((dy + 1) % wk)) r) first (nmS ss) (.fz (Dn k)) (.fz (.lst (w.map Dn))) (.fz (stD (Dn ((dy + 1) % wk)) r))) := for_cons (ρ1 := ρ e6 e7) rfl hs
          rw [hf]
          exact ih
    · rw [if_neg q]
      rw [show row.all (fun d => (nmIx (nmS ss) d).isSome) = false by simpa using q] at b2
      exact for_rt (ρ1 := ρ e6 e7) rfl ((seq_nx s1).trans (seq_rt (if_t b2 rfl)))
theorem nm_ev {ρ : Ro} (h : Sok ss cans wk cl) {vs : List Nat} {t : Tg} {f : Ro → EM D} {fi : Ro → EM (List D)} (hfi : fi ρ = some (.ok (ss.map S.d))) (hlc : ∀ s : S, ∃ ρ2, t s.d (wipeE ρ vs) = some ρ2 ∧ f ρ2 = some (.ok (.str s.nm))) : eLc vs t fi bYes f ρ = some (.ok (nmD (nmS ss))) := by
  refine lc_ev hfi ?_ (by rw [List.length_map, List.length_map]; have := h.n8; omega)
  have key : ∀ s1 : List S, lcD t bYes f (wipeE ρ vs) (s1.map S.d) = some ((nmS s1).map D.str) := by
    intro s1
    induction s1 with
    | nil => rfl
    | cons s s1 ih =>
      obtain ⟨ρ2, h1, h2⟩ := hlc s
      show lcD t bYes f (wipeE ρ vs) (s.d :: s1.map S.d) = _
      unfold lcD
      rw [h1]
      dsimp only
      rw [show bYes ρ2 = some (.ok true) from rfl]
      dsimp only
      rw [h2]
      dsimp only
      rw [ih]; rfl
  exact key ss
theorem walked_is (h : Sok ss cans wk cl) (hl : okL (nmS ss)) {rows : List (List D)} (hr : okR rows) (hrl : rows.length ≤ 1000) {first : Int} {dy : Nat} {is : List Int} (hd : dy < wk) (hi : okI is (ss.map S.p)) :
    m_law_walked [spD3 ss cans wk cl, rwD rows, stD (Dn dy) is, .int first] = some (.ret (outL first (plF ss cans wk cl 0 dy is rows))) := by
  let sp := spD3 ss cans wk cl
  have s1 : sSet 4 (eLc [8, 9, 10] (gT (gsC (gN 8) (gsC (gN 9) (gsC (gN 10) gs0))) 3) (iOf (eOp dIx (eVarB 0) (eC (.int 0)))) bYes (eVar 8)) (startE 11 [sp, rwD rows, stD (Dn dy) is, .int first]) = some (.nx (roW sp rows (stD (Dn dy) is) first (nmS ss) .un .un .un)) :=
    set_ev (i := 4) (nm_ev h rfl fun s => ⟨[.fz sp, .fz (rwD rows), .fz (stD (Dn dy) is), .fz (.int first), .un, .un, .un, .un, .fz (.str s.nm), .fz (.int s.gap), .fz (.int s.rest)], rfl, rfl⟩)
  have rg : iRg dRng1 (aCons (eCall dLen (aCons (eVarB 1) aNil)) aNil) (roW sp rows (stD (Dn dy) is) first (nmS ss) .un .un .un) = some (.ok ((List.range' 0 rows.length).map Dn)) := by
    refine rg_ev (ds := [.int (rows.map D.lst).length]) rfl ?_
    rw [List.length_map]
    exact rng1_is _ (by omega)
  have hf := wk_go h hl hr (first := first) rows 0 dy is .un .un .un rfl hd hi
  cases hp : plF ss cans wk cl 0 dy is rows with
  | kept dy' is' =>
    rw [hp] at hf
    obtain ⟨f5, f6, f7, e⟩ := hf
    exact run_ret ((seq_nx s1).trans ((seq_nx (for_ev rg e)).trans rfl))
  | dry j nm => rw [hp] at hf; exact run_ret ((seq_nx s1).trans (seq_rt (for_ev rg hf)))
  | bad j => rw [hp] at hf; exact run_ret ((seq_nx s1).trans (seq_rt (for_ev rg hf)))
  | none j => rw [hp] at hf; exact run_ret ((seq_nx s1).trans (seq_rt (for_ev rg hf)))
end
end K06
namespace K06
open PySem PySem.Spec PyProof.Rows L2 Tw
/-! ### the program's answer is the law's -/
theorem refusal_no : m_law_refusal .noPot = some (.ret (.tup [.str "none", .int (-1)])) := by kernel_rfl
theorem refusal_bad (n : Int) : m_law_refusal (.badDay n) = some (.ret (.tup [.str "bad", .int n])) := by rfl
theorem eq_lst {xs : List D} (h : okS (.lst xs) = true) : dEq (.lst xs) (.lst xs) = some (.ok (.bl true)) := by
  show (if fit (.lst xs) = true ∧ fit (.lst xs) = true then ok (D.bl (PyData.eqv (py (.lst xs)) (py (.lst xs)))) else none) = _
  rw [if_pos ⟨okS_fit h, okS_fit h⟩, SeqAt.eqv_refl _ (sm_lay _ (okS_parts h).1)]
  rfl
theorem str_tup {xs : List D} (h : okS (.tup xs) = true) : dStrU [.tup xs] = some (.ok (.str (py (.tup xs)).shown)) := by
  show (if (isSq (.tup xs) && okS (.tup xs)) = true then ok (D.str (py (.tup xs)).shown) else none) = _
  rw [if_pos (by rw [h]; rfl)]
  rfl
theorem eq_str (s : Str) : dEq (.str s) (.str s) = some (.ok (.bl true)) := by
  show some (Except.ok (D.bl (decide (s = s)))) = _
  rw [decide_eq_true rfl]
theorem okN_sm {d : D} (h : okN d) : smD d = true ∧ szD d ≤ 2 ∧ dpD d ≤ 1 := by
  rcases h with ⟨s, rfl, hs⟩ | rfl | rfl | rfl
  · exact ⟨hs, (by show 1 ≤ 2; decide), (by show 0 ≤ 1; decide)⟩
  · exact ⟨rfl, by decide, by decide⟩
  · exact ⟨by decide +kernel, by decide, by decide⟩
  · exact ⟨by decide +kernel, by decide, by decide⟩
theorem rows_okS {rows : List (List D)} (hr : okR rows) (hl : rows.length ≤ 100) : okS (rwD rows) = true := by
  have key : ∀ d ∈ rows.map D.lst, smD d = true ∧ szD d ≤ 17 ∧ dpD d ≤ 2 := fun d hd => by
    obtain ⟨row, hrow, rfl⟩ := List.mem_map.mp hd
    obtain ⟨h1, h2⟩ := hr row hrow
    have k1 := smL_all fun d hd => (okN_sm (h1 d hd)).1
    have k2 := szL_le (b := 2) fun d hd => (okN_sm (h1 d hd)).2.1
    have k3 := dpL_le (b := 1) fun d hd => (okN_sm (h1 d hd)).2.2
    refine ⟨k1, ?_, ?_⟩
    · show szL row + 1 ≤ 17; omega
    · show dpL row + 1 ≤ 2; omega
  have k1 := smL_all fun d hd => (key d hd).1
  have k2 := szL_le (b := 17) fun d hd => (key d hd).2.1
  have k3 := dpL_le (b := 2) fun d hd => (key d hd).2.2
  rw [List.length_map] at k2
  show (smL _ && (decide (szL _ + 1 ≤ 20000) && decide (dpL _ + 1 ≤ 60))) = true
  rw [k1, decide_eq_true (by omega), decide_eq_true (by omega)]; rfl
theorem dry_mem {c : Nat} : ∀ {is : List Int} {s1 : List S} {k : Nat} {nm : Str}, dryF c k is s1 = some nm → nm ∈ nmS s1
  | [], s1, k, nm, h => by cases s1 <;> cases h
  | i :: is, [], k, nm, h => by cases h
  | i :: is, s :: s1, k, nm, h => by
    have h' : (if c.testBit k = true then dryF c (k + 1) is s1 else if i + 1 = s.gap then some s.nm else dryF c (k + 1) is s1) = some nm := h
    split at h'
    · exact List.mem_cons_of_mem _ (dry_mem h')
    · split at h'
      · cases h'; exact List.mem_cons_self
      · exact List.mem_cons_of_mem _ (dry_mem h')
section
variable {ss : List S} {cans : Int} {wk cl : Nat} {ks : List (Str × Int)}
theorem pl_dry (h : Sok ss cans wk cl) : ∀ (rows : List (List D)) (k dy : Nat) (is : List Int) {j : Nat} {nm : Str}, dy < wk → okI is (ss.map S.p) → plF ss cans wk cl k dy is rows = .dry j nm → nm ∈ nmS ss ∧ j < k + rows.length
  | [], k, dy, is, j, nm, hd, hi, e => by cases e
  | row :: rows, k, dy, is, j, nm, hd, hi, e => by
    have hpl : plF ss cans wk cl k dy is (row :: rows) = (match rowF ss cans cl dy is row with
      | .none => .none k
      | .bad => .bad k
      | .dry nm => .dry k nm
      | .ok r => plF ss cans wk cl (k + 1) ((dy + 1) % wk) r rows) := rfl
    have one := fun r => pl_ok h [row] k dy is (dy' := (dy + 1) % wk) (is' := r) hd hi
    rw [hpl] at e
    cases hR : rowF ss cans cl dy is row with
    | none => rw [hR] at e; cases e
    | bad => rw [hR] at e; cases e
    | dry nm2 =>
      rw [hR] at e
      cases e
      refine ⟨?_, by rw [List.length_cons]; omega⟩
      unfold rowF at hR
      split at hR
      · split at hR
        · cases hR
        · rename_i c hc
          split at hR
          · cases hR
          · rename_i nm3 hdf
            cases hR
            unfold dayF at hdf
            split at hdf
            · cases hdf
            · split at hdf
              · cases hdf
              · split at hdf
                · cases hdf
                · rename_i hbh
                  obtain ⟨nm4, hn⟩ := bh_dry hbh
                  rw [hn] at hdf
                  cases hdf
                  exact dry_mem hn
          · cases hR
      · cases hR
    | ok r =>
      rw [hR] at e
      have hr : okI r (ss.map S.p) := (one r (by
        show (match rowF ss cans cl dy is row with
          | .none => Pl.none k
          | .bad => .bad k
          | .dry nm => .dry k nm
          | .ok r => plF ss cans wk cl (k + 1) ((dy + 1) % wk) r []) = _
        rw [hR]; rfl)).2
      have := pl_dry h rows (k + 1) ((dy + 1) % wk) r (Nat.mod_lt _ h.w.1) hr e
      exact ⟨this.1, by rw [List.length_cons]; omega⟩
theorem pl_lt (h : Sok ss cans wk cl) : ∀ (rows : List (List D)) (k dy : Nat) (is : List Int) {j : Nat}, plF ss cans wk cl k dy is rows = .bad j ∨ plF ss cans wk cl k dy is rows = .none j → j < k + rows.length
  | [], k, dy, is, j, e => by rcases e with e | e <;> cases e
  | row :: rows, k, dy, is, j, e => by
    have hpl : plF ss cans wk cl k dy is (row :: rows) = (match rowF ss cans cl dy is row with
      | .none => .none k
      | .bad => .bad k
      | .dry nm => .dry k nm
      | .ok r => plF ss cans wk cl (k + 1) ((dy + 1) % wk) r rows) := rfl
    rw [hpl] at e
    rw [List.length_cons]
    cases hR : rowF ss cans cl dy is row with
    | none => rw [hR] at e; rcases e with e | e <;> cases e; omega
    | bad => rw [hR] at e; rcases e with e | e <;> cases e; omega
    | dry nm2 => rw [hR] at e; rcases e with e | e <;> cases e
    | ok r =>
      rw [hR] at e
      have := pl_lt h rows (k + 1) ((dy + 1) % wk) r e
      omega
def resE (o : Out) : EM D := match o with
  | .ret d => some (.ok d)
  | .exc e => some (.error e)
  | .reto ds => some (.ok (.lst ds))
theorem call_res {m : List D → Option Out} {ds : List D} {o : Out} (h : m ds = some o) : dCall m ds = resE o := by
  unfold dCall
  rw [h]
  cases o <;> rfl
abbrev bTry : Ro → Option Fl := sSet 8 (eC .non)
noncomputable abbrev bCall : Ro → Option Fl := (sIf (bT (eOp dEq (eVarB 5) (eC (.int 0))))
        (sSet 8 (eCall (dDef 2 [] (dCall m_kept)) (aCons (eVar 0) (aCons (eVar 7) aNil))))
        (sIf (bT (eOp dEq (eVarB 4) (eC (.int 0))))
          (sSet 8 (eCall (dDef 4 [.int 0] (dCall m_followed)) (aCons (eVar 0) (aCons (eVar 7) (aCons (eVar 3) aNil)))))
          (sSet 8 (eCall (dDef 4 [] (dCall m_followed)) (aCons (eVar 0) (aCons (eVar 7) (aCons (eVar 3) (aCons (eVar 4) aNil))))))))
abbrev bHan : Xn → Ro → Option Fl := (fun y => (sSeq (sSet 10 (eTk 9 (dCall (fun _ => m_law_refusal y) [])))
      (sRet (eAnd (eOp dEq (eVarB 7) (eVarB 2)) (eAnd (eOp dNotN (eVarB 10) (eC .non)) (eOp dEq (eVarB 10) (eIf (bT (eOp dEq (eOp dIx (eVarB 6) (eC (.int 0))) (eC (.str "bad")))) (eVar 6) (eTup (aCons (eOp dIx (eVarB 6) (eC (.int 0))) (aCons (e1 dNeg (eC (.int 1))) aNil))))))))))
abbrev roR (g sp : D) (rows : List (List D)) (st : D) (first way : Int) (e6 e7 e8 e9 e10 : Ent) : Ro := [.fz g, .fz sp, .fz (rwD rows), .fz st, .fz (.int first), .fz (.int way), e6, e7, e8, e9, e10, .un]
theorem and3 {f g h : Ro → EM D} {ρ : Ro} (h1 : f ρ = some (.ok (.bl true))) (h2 : g ρ = some (.ok (.bl true))) (h3 : h ρ = some (.ok (.bl true))) : eAnd f (eAnd g h) ρ = some (.ok (.bl true)) := by
  unfold eAnd
  rw [h1, bnd_ok]
  show bnd (some (.ok true)) _ = _
  rw [bnd_ok, if_pos rfl, h2, bnd_ok]
  show bnd (some (.ok true)) _ = _
  rw [bnd_ok, if_pos rfl]
  exact h3
theorem eif_tt {p : Ro → EM Bool} {f g : Ro → EM D} {ρ : Ro} {r : EM D} (h : p ρ = some (.ok true)) (h2 : f ρ = r) : eIf p f g ρ = r := by
  unfold eIf
  rw [h, bnd_ok, if_pos rfl]
  exact h2
theorem two_okS {s : Str} {n : Int} (hs : smD (.str s) = true) (hn : n.natAbs < 10 ^ 12) : okS (.tup [.str s, .int n]) = true := by
  show ((smD (.str s) && (decide (n.natAbs < 10 ^ 12) && true)) && (decide (1 + (1 + 0) + 1 ≤ 20000) && decide (max 0 (max 0 0) + 1 ≤ 60))) = true
  rw [hs, decide_eq_true hn]; rfl
theorem han_bad {g sp : D} {rows : List (List D)} {st : D} {first way n : Int} {e8 e10 : Ent} (hR : okS (rwD rows) = true) (hn : n.natAbs < 10 ^ 12) : bHan (.badDay n) (roR g sp rows st first way (.fz (.tup [.str "bad", .int n])) (.fz (rwD rows)) e8 (.tk 0) e10) = some (.rt (.bl true)) := by
  have hok := two_okS (s := "bad") (n := n) (by decide +kernel) hn
  have s1 : sSet 10 (eTk 9 (dCall (fun _ => m_law_refusal (.badDay n)) [])) (roR g sp rows st first way (.fz (.tup [.str "bad", .int n])) (.fz (rwD rows)) e8 (.tk 0) e10) = some (.nx (roR g sp rows st first way (.fz (.tup [.str "bad", .int n])) (.fz (rwD rows)) e8 (.tk 0) (.fz (.tup [.str "bad", .int n])))) := by
    refine set_ev (i := 10) ?_
    show dCall (fun _ => m_law_refusal (.badDay n)) [] = _
    exact call_ret (refusal_bad n)
  refine (seq_nx s1).trans (ret_ev (and3 (op_ev (d := rwD rows) (e := rwD rows) rfl rfl (eq_lst hR)) rfl (op_ev (d := .tup [.str "bad", .int n]) (e := .tup [.str "bad", .int n]) rfl ?_ (eq_tup hok).1)))
  exact eif_tt (by rfl) rfl
theorem han_no {g sp : D} {rows : List (List D)} {st : D} {first way n : Int} {e8 e10 : Ent} (hR : okS (rwD rows) = true) : bHan .noPot (roR g sp rows st first way (.fz (.tup [.str "none", .int n])) (.fz (rwD rows)) e8 (.tk 0) e10) = some (.rt (.bl true)) := by
  have hok := two_okS (s := "none") (n := -1) (by decide +kernel) (by decide)
  have s1 : sSet 10 (eTk 9 (dCall (fun _ => m_law_refusal .noPot) [])) (roR g sp rows st first way (.fz (.tup [.str "none", .int n])) (.fz (rwD rows)) e8 (.tk 0) e10) = some (.nx (roR g sp rows st first way (.fz (.tup [.str "none", .int n])) (.fz (rwD rows)) e8 (.tk 0) (.fz (.tup [.str "none", .int (-1)])))) := by
    refine set_ev (i := 10) ?_
    show dCall (fun _ => m_law_refusal .noPot) [] = _
    exact call_ret refusal_no
  refine (seq_nx s1).trans (ret_ev (and3 (op_ev (d := rwD rows) (e := rwD rows) rfl rfl (eq_lst hR)) rfl (op_ev (d := .tup [.str "none", .int (-1)]) (e := .tup [.str "none", .int (-1)]) rfl ?_ (eq_tup hok).1)))
  have hb : bT (eOp dEq (eOp dIx (eVarB 6) (eC (.int 0))) (eC (.str "bad"))) (roR g sp rows st first way (.fz (.tup [.str "none", .int n])) (.fz (rwD rows)) e8 (.tk 0) (.fz (.tup [.str "none", .int (-1)]))) = some (.ok false) := by
    refine bT_ev (op_ev (d := .str "none") (e := .str "bad") rfl rfl ?_)
    show some (Except.ok (D.bl (decide (("none" : Str) = "bad")))) = _
    rw [decide_eq_false (by decide)]
  unfold eIf
  rw [hb, bnd_ok, if_neg (by decide)]
  rfl
end
end K06
namespace K06
open PySem PySem.Spec PyProof.Rows L2 Tw
/-! ### the law's question of one plan -/
noncomputable abbrev rg0 : Ro → Option Fl := (sSet 6 (eCall (dDef 4 [] (dCall m_law_walked)) (aCons (eVar 1) (aCons (eVar 2) (aCons (eVar 3) (aCons (eVar 4) aNil))))))
noncomputable abbrev rg1 : Ro → Option Fl := (sSet 7 (eLc [11] (gN 11) (iOf (eVar 2)) bYes (eCall dList (aCons (eVarB 11) aNil))))
noncomputable abbrev rg2 : Ro → Option Fl := (sTryAs 9 ct_GardenError
      (sIf (bT (eOp dEq (eVarB 5) (eC (.int 0))))
        (sSet 8 (eCall (dDef 2 [] (dCall m_kept)) (aCons (eVar 0) (aCons (eVar 7) aNil))))
        (sIf (bT (eOp dEq (eVarB 4) (eC (.int 0))))
          (sSet 8 (eCall (dDef 4 [.int 0] (dCall m_followed)) (aCons (eVar 0) (aCons (eVar 7) (aCons (eVar 3) aNil)))))
          (sSet 8 (eCall (dDef 4 [] (dCall m_followed)) (aCons (eVar 0) (aCons (eVar 7) (aCons (eVar 3) (aCons (eVar 4) aNil))))))))
      (fun y => (sSeq (sSet 10 (eTk 9 (dCall (fun _ => m_law_refusal y) [])))
      (sRet (eAnd (eOp dEq (eVarB 7) (eVarB 2)) (eAnd (eOp dNotN (eVarB 10) (eC .non)) (eOp dEq (eVarB 10) (eIf (bT (eOp dEq (eOp dIx (eVarB 6) (eC (.int 0))) (eC (.str "bad")))) (eVar 6) (eTup (aCons (eOp dIx (eVarB 6) (eC (.int 0))) (aCons (e1 dNeg (eC (.int 1))) aNil)))))))))))
noncomputable abbrev rg3 : Ro → Option Fl := (sIf (bOr (bT (eOp dEq (eOp dIx (eVarB 6) (eC (.int 0))) (eC (.str "bad")))) (bOr (bT (eOp dEq (eOp dIx (eVarB 6) (eC (.int 0))) (eC (.str "none")))) (bT (eOp dNe (eVarB 7) (eVarB 2)))))
      (sRet (eC (.bl false)))
      sNil)
noncomputable abbrev rg4 : Ro → Option Fl := (sRet (eAnd (e1 (dIs tab_tuple) (eVarB 8)) (eAnd (e1 (dIs tab_bool) (eOp dIx (eVarB 8) (eC (.int 0)))) (eOp dEq (eCall dStrU (aCons (eVarB 8) aNil)) (eCall dStrU (aCons (eCall (dDef 1 [] (dCall m_law_told)) (aCons (eVar 6) aNil)) aNil))))))
theorem rg_row : m_law_right = runD (["_law_garden_here", "_law_spec_here", "_law_rows_here", "_law_state", "_law_first", "_law_way", "_law_due", "_law_handed", "_law_found", "_law_error", "_law_told_here", "_law_row"] : List Str).length (sSeq rg0 (sSeq rg1 (sSeq rg2 (sSeq rg3 rg4)))) := rfl

section
variable {ss : List S} {cans : Int} {wk cl : Nat} {ks : List (Str × Int)}
theorem fresh_isS (h : Sok ss cans wk cl) : m_Garden_fresh [gdD (ss.map S.p) cans wk cl ks] = some (.ret (stD (Dn 0) (List.replicate ss.length 0))) := by
  have e : eLc [1] (gN 1) (iOf (e1 (dFld "pots") (eVarB 0))) bYes (eC (.int 0)) [.fz (gdD (ss.map S.p) cans wk cl ks), .un] = some (.ok (.lst ((List.replicate ss.length (0 : Int)).map D.int))) := by
    refine lc_ev (ds := (ss.map S.p).map P.d) rfl ?_ (by have := h.n8; simp; omega)
    rw [lc_map (F := fun _ => .int 0)]
    · rw [List.map_map, List.map_map, List.map_replicate]
      exact congrArg some (List.map_const' ..)
    · intro d _
      exact ⟨_, rfl, rfl, rfl⟩
  exact run_ret (ret_ev (tup_ev (ds := [.int 0, .tup ((List.replicate ss.length (0 : Int)).map D.int)]) (a_cons rfl (a_cons (call_ev (ds := [.lst ((List.replicate ss.length (0 : Int)).map D.int)]) (a_cons e rfl) rfl) rfl)) (n := 2) (Nat.le_refl 2)))
theorem zero_ok : ∀ (l : List S), (∀ s ∈ l, 1 ≤ s.gap) → okI (List.replicate l.length 0) (l.map S.p)
  | [], _ => trivial
  | s :: l, hg => ⟨⟨Int.le_refl _, by have := hg s List.mem_cons_self; show (0 : Int) < s.gap; omega⟩, zero_ok l fun t ht => hg t (List.mem_cons_of_mem _ ht)⟩
theorem outP_no {first : Int} {p : Pl} {ds : List D} : outP first p ≠ .reto ds := by cases p <;> exact fun z => nomatch z
theorem kept_is (h : Sok ss cans wk cl) (hk : namesS (nmS ss) [] = some ks) {rows : List (List D)} (hr : okR rows) (hrl : rows.length ≤ 1000) :
    m_kept [gdD (ss.map S.p) cans wk cl ks, rwD rows] = some (outP 0 (plF ss cans wk cl 0 0 (List.replicate ss.length 0) rows)) := by
  let g := gdD (ss.map S.p) cans wk cl ks
  have hf := followed_is h hk hr hrl (first := 0) (dy := 0) (is := List.replicate ss.length 0) h.w.1 (zero_ok ss h.g1)
  have e : eCall (dDef 4 [.int 0] (dCall m_followed)) (aCons (eVar 0) (aCons (eVar 1) (aCons (eMeth 1 tb_fresh dCall (eVar 0) aNil) aNil))) (startE 2 [g, rwD rows]) = resE (outP 0 (plF ss cans wk cl 0 0 (List.replicate ss.length 0) rows)) :=
    call_ev (ds := [g, rwD rows, stD (Dn 0) (List.replicate ss.length 0)]) (a_cons rfl (a_cons rfl (a_cons (meth_ev (m := m_Garden_fresh) (c := .garden) (ds := []) rfl rfl rfl rfl (call_ret (fresh_isS h))) rfl))) ((def_dd rfl).trans (call_res hf))
  cases ho : outP 0 (plF ss cans wk cl 0 0 (List.replicate ss.length 0) rows) with
  | ret d => rw [ho] at e; exact run_ret (ret_ev e)
  | exc y => rw [ho] at e; exact run_exc (ret_er e)
  | reto ds => exact absurd ho outP_no
def aftC (ρ0 : Ro) (f : D → Ro) : Out → Option Fl
  | .ret d => some (.nx (f d))
  | .exc y => some (.ex y ρ0)
  | .reto ds => none
theorem right_is (h : Sok ss cans wk cl) (hk : namesS (nmS ss) [] = some ks) (hl : okL (nmS ss)) {rows : List (List D)} (hr : okR rows) (hrl : rows.length ≤ 40) {first way : Int} {dy : Nat} {is : List Int} (hd : dy < wk) (hi : okI is (ss.map S.p))
    (hf : 0 ≤ first ∧ first < 1000) (hway : (way = 0 ∧ dy = 0 ∧ is = List.replicate ss.length 0 ∧ first = 0) ∨ way = 1) :
    dDef 6 [] (dCall m_law_right) [gdD (ss.map S.p) cans wk cl ks, spD3 ss cans wk cl, rwD rows, stD (Dn dy) is, .int first, .int way] = some (.ok (.bl true)) := by
  let g := gdD (ss.map S.p) cans wk cl ks
  let sp := spD3 ss cans wk cl
  let st := stD (Dn dy) is
  let pl := plF ss cans wk cl 0 dy is rows
  let due := outL first pl
  have hR := rows_okS hr (by omega)
  let ρ := fun (e6 e7 e8 : Ent) => roR g sp rows st first way e6 e7 e8 .un .un
  have r0 : rg0 (startE 12 [g, sp, rwD rows, st, .int first, .int way]) = some (.nx (ρ (.fz due) .un .un)) := set_ev (i := 6) (call_ev (ds := [sp, rwD rows, st, .int first]) rfl ((def_all rfl).trans (call_ret (walked_is h hl hr (by omega) hd hi))))
  have r1 : rg1 (ρ (.fz due) .un .un) = some (.nx (ρ (.fz due) (.fz (rwD rows)) .un)) := by
    refine set_ev (i := 7) (lc_ev (ds := rows.map D.lst) rfl ?_ (by rw [List.length_map]; omega))
    have key : ∀ r1 : List (List D), lcD (gN 11) bYes (eCall dList (aCons (eVarB 11) aNil)) (wipeE (ρ (.fz due) .un .un) [11]) (r1.map D.lst) = some (r1.map D.lst) := by
      intro r1
      induction r1 with
      | nil => rfl
      | cons row r1 ih =>
        show lcD (gN 11) bYes (eCall dList (aCons (eVarB 11) aNil)) (wipeE (ρ (.fz due) .un .un) [11]) (.lst row :: r1.map D.lst) = _
        unfold lcD
        rw [show gN 11 (.lst row) (wipeE (ρ (.fz due) .un .un) [11]) = some [.fz g, .fz sp, .fz (rwD rows), .fz st, .fz (.int first), .fz (.int way), .fz due, .un, .un, .un, .un, .fz (.lst row)] from rfl]
        dsimp only
        rw [show bYes [.fz g, .fz sp, .fz (rwD rows), .fz st, .fz (.int first), .fz (.int way), .fz due, .un, .un, .un, .un, .fz (.lst row)] = some (.ok true) from rfl]
        dsimp only
        rw [show eCall dList (aCons (eVarB 11) aNil) [.fz g, .fz sp, .fz (rwD rows), .fz st, .fz (.int first), .fz (.int way), .fz due, .un, .un, .un, .un, .fz (.lst row)] = some (.ok (.lst row)) from rfl]
        dsimp only
        rw [ih]; rfl
    exact key rows
  have hcall : ∀ o, outP first pl = o → bCall (ρ (.fz due) (.fz (rwD rows)) .un) = aftC (ρ (.fz due) (.fz (rwD rows)) .un) (fun d => ρ (.fz due) (.fz (rwD rows)) (.fz d)) o := fun o ho => by
    have fin : ∀ f : Ro → EM D, f (ρ (.fz due) (.fz (rwD rows)) .un) = resE (outP first pl) → sSet 8 f (ρ (.fz due) (.fz (rwD rows)) .un) = aftC (ρ (.fz due) (.fz (rwD rows)) .un) (fun d => ρ (.fz due) (.fz (rwD rows)) (.fz d)) o := fun f e => by
      rw [ho] at e
      cases o with
      | ret d => exact set_ev (i := 8) e
      | exc y => exact set_er e
      | reto ds => exact absurd ho outP_no
    have hfo := followed_is h hk hr (by omega) (first := first) hd hi
    have b5 : bT (eOp dEq (eVarB 5) (eC (.int 0))) (ρ (.fz due) (.fz (rwD rows)) .un) = some (.ok (decide (way = 0))) := eqE rfl
    have b4 : bT (eOp dEq (eVarB 4) (eC (.int 0))) (ρ (.fz due) (.fz (rwD rows)) .un) = some (.ok (decide (first = 0))) := eqE rfl
    rcases hway with ⟨w1, w2, w3, w4⟩ | w1
    · rw [decide_eq_true w1] at b5
      have hkp := kept_is h hk hr (by omega)
      have epl : outP 0 (plF ss cans wk cl 0 0 (List.replicate ss.length 0) rows) = outP first pl := by
        show _ = outP first (plF ss cans wk cl 0 dy is rows)
        rw [w2, w3, w4]
      exact if_t b5 (fin _ (call_ev (ds := [g, rwD rows]) rfl ((def_all rfl).trans ((call_res hkp).trans (by rw [epl])))))
    · rw [decide_eq_false (by omega)] at b5
      by_cases w2 : first = 0
      · rw [decide_eq_true w2] at b4
        have hfo0 := followed_is h hk hr (by omega) (first := 0) hd hi
        have epl : outP 0 (plF ss cans wk cl 0 dy is rows) = outP first pl := by rw [w2]
        exact if_f b5 (if_t b4 (fin _ (call_ev (ds := [g, rwD rows, st]) rfl ((def_dd rfl).trans ((call_res hfo0).trans (by rw [epl]))))))
      · rw [decide_eq_false w2] at b4
        exact if_f b5 (if_f b4 (fin _ (call_ev (ds := [g, rwD rows, st, .int first]) rfl ((def_all rfl).trans (call_res hfo)))))
  have hne : dNe (rwD rows) (rwD rows) = some (.ok (.bl false)) := ne_lst hR
  have kst : ∀ (a b : Str), a ≠ b → ∀ z : List D, bT (eOp dEq (eOp dIx (eVarB 6) (eC (.int 0))) (eC (.str b))) (ρ (.fz (.tup (.str a :: z))) (.fz (rwD rows)) .un) = some (.ok false) := fun a b hab z => by
    refine bT_ev (op_ev (d := .str a) (e := .str b) (op_ev (d := .tup (.str a :: z)) (e := .int 0) rfl rfl (ix_tup (k := 0) rfl)) rfl ?_)
    show some (Except.ok (D.bl (decide (a = b)))) = _
    rw [decide_eq_false hab]
  rw [rg_row]
  refine (def_all rfl).trans (call_ret (run_ret ((seq_nx r0).trans ((seq_nx r1).trans ?_))))
  cases hp : pl with
  | bad j =>
    have ed : due = .tup [.str "bad", .int (first + j)] := by show outL first pl = _; rw [hp]; rfl
    have hc := hcall (.exc (.badDay (first + j))) (by rw [hp]; rfl)
    have hj := pl_lt h rows 0 dy is (.inl hp)
    rw [ed] at hc ⊢
    exact seq_rt (try_rt hc rfl rfl (han_bad hR (by omega)))
  | none j =>
    have ed : due = .tup [.str "none", .int (first + j)] := by show outL first pl = _; rw [hp]; rfl
    have hc := hcall (.exc .noPot) (by rw [hp]; rfl)
    rw [ed] at hc ⊢
    exact seq_rt (try_rt hc rfl rfl (han_no hR))
  | kept dy' is' =>
    have ed : due = .tup [.str "kept", stD (Dn dy') is'] := by show outL first pl = _; rw [hp]; rfl
    have hc := hcall (.ret (.tup [.bl true, stD (Dn dy') is'])) (by rw [hp]; rfl)
    obtain ⟨q1, q2⟩ := pl_ok h rows 0 dy is hd hi hp
    rw [ed] at hc ⊢
    have hst := st_sm (dy := dy') q2 h.gap (by rw [List.length_map]; exact h.n8) (by have := h.w.2; omega)
    have hok : okS (.tup [.bl true, stD (Dn dy') is']) = true := by
      obtain ⟨a1, a2, a3⟩ := hst
      have a1 : smD (stD (Dn dy') is') = true := a1
      have a2 : szD (stD (Dn dy') is') ≤ 11 := a2
      have a3 : dpD (stD (Dn dy') is') ≤ 2 := a3
      generalize stD (Dn dy') is' = Z at a1 a2 a3 ⊢
      show ((true && (smD Z && true)) && (decide (1 + (szD Z + 0) + 1 ≤ 20000) && decide (max 0 (max (dpD Z) 0) + 1 ≤ 60))) = true
      rw [a1, decide_eq_true (by omega), decide_eq_true (by omega)]; rfl
    refine (seq_nx (try_nx hc)).trans ((seq_nx (if_f (or_f ?_ (or_f ?_ (bT_ev (op_ev (d := rwD rows) (e := rwD rows) rfl rfl hne)))) rfl)).trans (ret_ev (and3 rfl rfl (op_ev (call_ev (ds := [.tup [.bl true, stD (Dn dy') is']]) rfl (str_tup hok)) (call_ev (ds := [.tup [.bl true, stD (Dn dy') is']]) (a_cons (call_ev (ds := [.tup [.str "kept", stD (Dn dy') is']]) rfl ((def_all rfl).trans (call_ret (by rfl)))) rfl) (str_tup hok)) (eq_str _)))))
    · exact kst "kept" "bad" (by decide) _
    · exact kst "kept" "none" (by decide) _
  | dry j nm =>
    have ed : due = .tup [.str "dry", .int (first + j), .str nm] := by show outL first pl = _; rw [hp]; rfl
    have hc := hcall (.ret (.tup [.bl false, .int (first + j), .str nm])) (by rw [hp]; rfl)
    obtain ⟨q1, q2⟩ := pl_dry h rows 0 dy is hd hi hp
    rw [ed] at hc ⊢
    have hok : okS (.tup [.bl false, .int (first + j), .str nm]) = true := by
      have a1 := hl.2 nm q1
      show ((true && (decide ((first + j).natAbs < 10 ^ 12) && (smD (.str nm) && true))) && (decide (1 + (1 + (1 + 0)) + 1 ≤ 20000) && decide (max 0 (max 0 (max 0 0)) + 1 ≤ 60))) = true
      rw [a1, decide_eq_true (by omega)]; rfl
    refine (seq_nx (try_nx hc)).trans ((seq_nx (if_f (or_f ?_ (or_f ?_ (bT_ev (op_ev (d := rwD rows) (e := rwD rows) rfl rfl hne)))) rfl)).trans (ret_ev (and3 rfl rfl (op_ev (call_ev (ds := [.tup [.bl false, .int (first + j), .str nm]]) rfl (str_tup hok)) (call_ev (ds := [.tup [.bl false, .int (first + j), .str nm]]) (a_cons (call_ev (ds := [.tup [.str "dry", .int (first + j), .str nm]]) rfl ((def_all rfl).trans (call_ret (by rfl)))) rfl) (str_tup hok)) (eq_str _)))))
    · exact kst "dry" "bad" (by decide) _
    · exact kst "dry" "none" (by decide) _
end
end K06
namespace K06
open PySem PySem.Spec PyProof.Rows L2 Tw
/-! ### the law's rows of names -/
abbrev rw0 : Ro → Option Fl := (sSet 5 (eLc [14, 15, 16] (gT (gsC (gN 14) (gsC (gN 15) (gsC (gN 16) gs0))) 3) (iOf (eOp dIx (eVarB 0) (eC (.int 0)))) bYes (eVar 14)))
abbrev rw1 : Ro → Option Fl := (sSet 6 (eTup (aCons (eC (.int 0)) (aCons (eCall dTuple (aCons (eLc [14] (gN 14) (iOf (eVar 5)) bYes (eC (.int 0))) aNil)) aNil))))
abbrev rw2 : Ro → Option Fl := (sSetO 7 (eLst aNil))
abbrev rw3 : Ro → Option Fl := (sFor (gN 8) (iRg dRng1 (aCons (eVarB 3) aNil))
      (sSeq (sSet 9 (eOp dAddU (eCall (dDef 2 [] (dCall m_law_cell_at)) (aCons (eVar 1) (aCons (eOp dAddU (eVarB 2) (eVarB 8)) aNil))) (eOp dMulU (eC (.int 7)) (eVarB 8))))
      (sSeq (sSet 10 (eCall (dDef 2 [] (dCall m_law_steps)) (aCons (eVar 0) (aCons (eVar 6) aNil))))
      (sSeq (sSet 11 (eSl dSlU (eLc [14] (gN 14) (iOf (eVar 5)) (bT (eOp dEq (eCall (dDef 3 [] (dCall m_law_draw)) (aCons (eVar 9) (aCons (eCall dLen (aCons (eVarB 14) aNil)) (aCons (eC (.int 2)) aNil)))) (eC (.int 0)))) (eVar 14)) oNone (oSome (eC (.int 2)))))
      (sSeq (sIf (bAnd (bT (eOp dNe (eVarB 10) (eLst aNil))) (bT (eOp dGt (eCall (dDef 3 [] (dCall m_law_draw)) (aCons (eVar 9) (aCons (eC (.int 5)) (aCons (eC (.int 8)) aNil)))) (eC (.int 0)))))
        (sSeq (sUnp (gT (gsC (gN 12) (gsC (gN 6) gs0)) 2) (eOp dIx (eVarB 10) (eCall (dDef 3 [] (dCall m_law_draw)) (aCons (eVar 9) (aCons (eC (.int 6)) (aCons (eCall dLen (aCons (eVarB 10) aNil)) aNil))))))
        (sSet 11 (eLc [17] (gN 17) (iRg dRng1 (aCons (eCall dLen (aCons (eVarB 5) aNil)) aNil)) (bT (eOp dEq (eOp dAnd (eOp dShr (eVarB 12) (eVarB 17)) (eC (.int 1))) (eC (.int 1)))) (eOp dIx (eVarB 5) (eVarB 17)))))
        sNil)
      (sSeq (sIf (bAnd (bT (eVarB 4)) (bT (eOp dEq (eCall (dDef 3 [] (dCall m_law_draw)) (aCons (eVar 9) (aCons (eC (.int 7)) (aCons (eC (.int 12)) aNil)))) (eC (.int 0)))))
        (sSeq (sSet 13 (eLst (aCons (eLst (aCons (eOp dIx (eVarB 5) (eC (.int 0))) aNil)) (aCons (eLst (aCons (eC (.str "zz")) aNil)) (aCons (eLst (aCons (eOp dIx (eVarB 5) (eC (.int 0))) (aCons (eOp dIx (eVarB 5) (eC (.int 0))) (aCons (eC (.str "zz")) aNil)))) (aCons (eLst (aCons (eC .non) aNil)) (aCons (eLst (aCons (eC (.int 3)) aNil)) (aCons (eLst (aCons (eLst (aCons (eC (.str "ivy")) aNil)) aNil)) (aCons (eLst (aCons (eC (.str "")) aNil)) (aCons (eLst (aCons (eC (.str "ivy\n")) aNil)) aNil))))))))))
        (sSet 11 (eOp dAddU (eVarB 11) (eOp dIx (eVarB 13) (eCall (dDef 3 [] (dCall m_law_draw)) (aCons (eVar 9) (aCons (eC (.int 4)) (aCons (eC (.int 8)) aNil))))))))
        sNil)
      (gdO 7 (sApp 7 (eIf (bT (eOp dEq (eOp dMod (eVarB 9) (eC (.int 3))) (eC (.int 0)))) (e1 dRevL (eVarB 11)) (eVar 11))))))))))
abbrev rw4 : Ro → Option Fl := (sRetV 7)
theorem rw_row : m_law_rows = runD (["_law_spec_here", "_law_script", "_law_first", "_law_many", "_law_wild", "_law_names", "_law_state", "_law_rows_here", "_law_at", "_law_cell", "_law_steps_here", "_law_row", "_law_chosen", "_law_odd", "_law_name", "_law_gap", "_law_rest", "_law_k"] : List Str).length (sSeq rw0 (sSeq rw1 (sSeq rw2 (sSeq rw3 rw4)))) := rfl

abbrev qs0 : Ro → Option Fl := (sSet 9 (eOp dAddU (eCall (dDef 2 [] (dCall m_law_cell_at)) (aCons (eVar 1) (aCons (eOp dAddU (eVarB 2) (eVarB 8)) aNil))) (eOp dMulU (eC (.int 7)) (eVarB 8))))
abbrev qs1 : Ro → Option Fl := (sSet 10 (eCall (dDef 2 [] (dCall m_law_steps)) (aCons (eVar 0) (aCons (eVar 6) aNil))))
abbrev qs2 : Ro → Option Fl := (sSet 11 (eSl dSlU (eLc [14] (gN 14) (iOf (eVar 5)) (bT (eOp dEq (eCall (dDef 3 [] (dCall m_law_draw)) (aCons (eVar 9) (aCons (eCall dLen (aCons (eVarB 14) aNil)) (aCons (eC (.int 2)) aNil)))) (eC (.int 0)))) (eVar 14)) oNone (oSome (eC (.int 2)))))
abbrev qs3 : Ro → Option Fl := (sIf (bAnd (bT (eOp dNe (eVarB 10) (eLst aNil))) (bT (eOp dGt (eCall (dDef 3 [] (dCall m_law_draw)) (aCons (eVar 9) (aCons (eC (.int 5)) (aCons (eC (.int 8)) aNil)))) (eC (.int 0)))))
        (sSeq (sUnp (gT (gsC (gN 12) (gsC (gN 6) gs0)) 2) (eOp dIx (eVarB 10) (eCall (dDef 3 [] (dCall m_law_draw)) (aCons (eVar 9) (aCons (eC (.int 6)) (aCons (eCall dLen (aCons (eVarB 10) aNil)) aNil))))))
        (sSet 11 (eLc [17] (gN 17) (iRg dRng1 (aCons (eCall dLen (aCons (eVarB 5) aNil)) aNil)) (bT (eOp dEq (eOp dAnd (eOp dShr (eVarB 12) (eVarB 17)) (eC (.int 1))) (eC (.int 1)))) (eOp dIx (eVarB 5) (eVarB 17)))))
        sNil)
abbrev qs4 : Ro → Option Fl := (sIf (bAnd (bT (eVarB 4)) (bT (eOp dEq (eCall (dDef 3 [] (dCall m_law_draw)) (aCons (eVar 9) (aCons (eC (.int 7)) (aCons (eC (.int 12)) aNil)))) (eC (.int 0)))))
        (sSeq (sSet 13 (eLst (aCons (eLst (aCons (eOp dIx (eVarB 5) (eC (.int 0))) aNil)) (aCons (eLst (aCons (eC (.str "zz")) aNil)) (aCons (eLst (aCons (eOp dIx (eVarB 5) (eC (.int 0))) (aCons (eOp dIx (eVarB 5) (eC (.int 0))) (aCons (eC (.str "zz")) aNil)))) (aCons (eLst (aCons (eC .non) aNil)) (aCons (eLst (aCons (eC (.int 3)) aNil)) (aCons (eLst (aCons (eLst (aCons (eC (.str "ivy")) aNil)) aNil)) (aCons (eLst (aCons (eC (.str "")) aNil)) (aCons (eLst (aCons (eC (.str "ivy\n")) aNil)) aNil))))))))))
        (sSet 11 (eOp dAddU (eVarB 11) (eOp dIx (eVarB 13) (eCall (dDef 3 [] (dCall m_law_draw)) (aCons (eVar 9) (aCons (eC (.int 4)) (aCons (eC (.int 8)) aNil))))))))
        sNil)
abbrev qs5 : Ro → Option Fl := (gdO 7 (sApp 7 (eIf (bT (eOp dEq (eOp dMod (eVarB 9) (eC (.int 3))) (eC (.int 0)))) (e1 dRevL (eVarB 11)) (eVar 11))))
abbrev qs4odd : Ro → EM D := (eLst (aCons (eLst (aCons (eOp dIx (eVarB 5) (eC (.int 0))) aNil)) (aCons (eLst (aCons (eC (.str "zz")) aNil)) (aCons (eLst (aCons (eOp dIx (eVarB 5) (eC (.int 0))) (aCons (eOp dIx (eVarB 5) (eC (.int 0))) (aCons (eC (.str "zz")) aNil)))) (aCons (eLst (aCons (eC .non) aNil)) (aCons (eLst (aCons (eC (.int 3)) aNil)) (aCons (eLst (aCons (eLst (aCons (eC (.str "ivy")) aNil)) aNil)) (aCons (eLst (aCons (eC (.str "")) aNil)) (aCons (eLst (aCons (eC (.str "ivy\n")) aNil)) aNil)))))))))
abbrev bQ : Ro → Option Fl := (sSeq qs0 (sSeq qs1 (sSeq qs2 (sSeq qs3 (sSeq qs4 qs5)))))
theorem bQ_row : rw3 = sFor (gN 8) (iRg dRng1 (aCons (eVarB 3) aNil)) bQ := rfl
theorem ne_nilS {xs : List D} (h : okS (.lst xs) = true) : dNe (.lst xs) (.lst []) = some (.ok (.bl (!decide (xs = [])))) := by
  show (if fit (.lst xs) = true ∧ fit (.lst []) = true then ok (D.bl (!PyData.eqv (.list (pyL xs)) (.list (pyL [])))) else none) = _
  rw [if_pos ⟨okS_fit h, fit_nil⟩]
  cases xs with
  | nil => simp [PyData.eqv, PyData.eqvAll, pyL, ok]
  | cons x xs => simp [PyData.eqv, PyData.eqvAll, pyL, ok]
theorem cat_lst (xs ys : List D) (h : xs.length + ys.length ≤ 1000) : dAddU (.lst xs) (.lst ys) = some (.ok (.lst (xs ++ ys))) := by
  show (if xs.length + ys.length ≤ sizeLine then ok (D.lst (xs ++ ys)) else none) = _
  rw [if_pos (by have := sizeLine_eq; omega)]
  rfl
theorem len_str {s : Str} (h : smD (.str s) = true) : dLen [.str s] = some (.ok (.int s.length)) := by
  have : s.cps.size ≤ 12 := by
    have h' : (decide (s.cps.size ≤ 12) && ((s.cps.toList.all fun c => decide (c < 16 ^ 8)) && PyData.strOk s)) = true := h
    simp only [Bool.and_eq_true, decide_eq_true_eq] at h'
    exact h'.1
  show (if s.length ≤ sizeLine then ok (D.int s.length) else none) = _
  rw [if_pos (by have := sizeLine_eq; have e : s.length = s.cps.size := rfl; omega)]
  rfl
section
variable {ss : List S} {cans : Int} {wk cl : Nat} {ks : List (Str × Int)} {ns : List Int}
abbrev roQ (sp : D) (ns : List Int) (many : Nat) (l : List Str) (st : D) (acc : List D) (e8 e9 e10 e11 e12 e13 : Ent) : Ro := [.fz sp, .fz (.scr ns), .fz (Dn 3), .fz (Dn many), .fz (.bl true), .fz (nmD l), .fz st, .ow acc, e8, e9, e10, e11, e12, e13, .un, .un, .un, .un]
/-- some names -/
theorem pick_some {vs : List Nat} {t : Tg} {p : Ro → EM Bool} {f : Ro → EM D} {ρ : Ro} {l : List Str} : ∀ ds : List D, (∀ d ∈ ds, ∃ ρ1 b s, t d (wipeE ρ vs) = some ρ1 ∧ p ρ1 = some (.ok b) ∧ f ρ1 = some (.ok (.str s)) ∧ s ∈ l) → ∃ ys : List Str, (∀ s ∈ ys, s ∈ l) ∧ ys.length ≤ ds.length ∧ lcD t p f (wipeE ρ vs) ds = some (ys.map D.str)
  | [], _ => ⟨[], (fun s hs => nomatch hs), Nat.le_refl _, rfl⟩
  | d :: ds, h => by
    obtain ⟨ys, h1, h2, h3⟩ := pick_some (vs := vs) (t := t) (p := p) (f := f) (ρ := ρ) (l := l) ds fun x hx => h x (List.mem_cons_of_mem _ hx)
    obtain ⟨ρ1, b, s, g1, g2, g3, g4⟩ := h d List.mem_cons_self
    cases b with
    | false =>
      refine ⟨ys, h1, Nat.le_succ_of_le h2, ?_⟩
      unfold lcD
      rw [g1]; dsimp only; rw [g2]; exact h3
    | true =>
      refine ⟨s :: ys, fun u hu => ?_, Nat.succ_le_succ h2, ?_⟩
      · rcases List.mem_cons.mp hu with rfl | hu
        · exact g4
        · exact h1 u hu
      · unfold lcD
        rw [g1]; dsimp only; rw [g2]; dsimp only; rw [g3]; dsimp only; rw [h3]; rfl
def Good (l : List Str) (row : List D) : Prop := (∀ d ∈ row, okN d)
theorem good_str {l : List Str} (hl : okL l) {ys : List Str} (h : ∀ s ∈ ys, s ∈ l) : ∀ d ∈ ys.map D.str, okN d := fun d hd => by
  obtain ⟨s, hs, rfl⟩ := List.mem_map.mp hd
  exact .inl ⟨s, rfl, hl.2 s (h s hs)⟩
theorem row_step (h : Sok ss cans wk cl) (h3 : ss.length ≤ 3) (hl : okL (nmS ss)) {many k : Nat} (hk : k ≤ 40) {dy : Nat} {is : List Int} (hd : dy < wk) (hi : okI is (ss.map S.p)) {acc : List D} (ha : acc.length ≤ 40) {e9 e10 e11 e12 e13 : Ent} :
    ∃ row dy' is' f9 f10 f11 f12 f13, (∀ d ∈ row, okN d) ∧ row.length ≤ 8 ∧ dy' < wk ∧ okI is' (ss.map S.p) ∧ bQ (roQ (spD3 ss cans wk cl) ns many (nmS ss) (stD (Dn dy) is) acc (.fz (Dn k)) e9 e10 e11 e12 e13) =
      some (.nx (roQ (spD3 ss cans wk cl) ns many (nmS ss) (stD (Dn dy') is') (acc ++ [.lst row]) (.fz (Dn k)) f9 f10 f11 f12 f13)) := by
  let sp := spD3 ss cans wk cl
  let l := nmS ss
  have hll : l.length ≤ 3 := by show (nmS ss).length ≤ 3; rw [List.length_map]; exact h3
  have hl1 : 1 ≤ l.length := by show 1 ≤ (nmS ss).length; rw [List.length_map]; exact h.n1
  have h8 : (ss.map S.p).length ≤ 8 := by rw [List.length_map]; exact h.n8
  let ρ := fun (st : D) (e9 e10 e11 e12 e13 : Ent) => roQ sp ns many l st acc (.fz (Dn k)) e9 e10 e11 e12 e13
  let st := stD (Dn dy) is
  obtain ⟨c, s0⟩ : ∃ c : Int, qs0 (ρ st e9 e10 e11 e12 e13) = some (.nx (ρ st (.fz (.int c)) e10 e11 e12 e13)) := by
    have hc : eCall (dDef 2 [] (dCall m_law_cell_at)) (aCons (eVar 1) (aCons (eOp dAddU (eVarB 2) (eVarB 8)) aNil)) (ρ st e9 e10 e11 e12 e13) = some (.ok (.int (ns.getD (3 + k) 0))) := cellN (k := 3 + k) rfl (op_ev (d := Dn 3) (e := Dn k) rfl rfl (by
      show some (Except.ok (D.int (((3 : Nat) : Int) + (k : Int)))) = some (Except.ok (D.int ((3 + k : Nat) : Int)))
      rw [Int.natCast_add]))
    exact ⟨_, set_ev (i := 9) (op_ev (d := .int (ns.getD (3 + k) 0)) (e := .int (7 * (k : Int))) hc (op_ev (d := .int 7) (e := Dn k) rfl rfl (mul_ev (by omega))) rfl)⟩
  let Z := stepsF (ss.map S.p) is cl dy cans wk
  have s1 : qs1 (ρ st (.fz (.int c)) e10 e11 e12 e13) = some (.nx (ρ st (.fz (.int c)) (.fz (.lst Z)) e11 e12 e13)) := set_ev (i := 10) (call_ev (ds := [sp, st]) rfl ((def_all rfl).trans (call_reto (steps_is hi h.n8 (by have := h.w.1; omega) h.g1))))
  have hZ := steps_ok (cl := cl) (dy := dy) (cans := cans) hi h.gap h8 h.w
  obtain ⟨row0, hr0, hr0l, s2⟩ : ∃ row0, (∀ d ∈ row0, okN d) ∧ row0.length ≤ 3 ∧ qs2 (ρ st (.fz (.int c)) (.fz (.lst Z)) e11 e12 e13) = some (.nx (ρ st (.fz (.int c)) (.fz (.lst Z)) (.fz (.lst row0)) e12 e13)) := by
    obtain ⟨ys, y1, y2, y3⟩ := pick_some (vs := [14]) (t := gN 14) (p := bT (eOp dEq (eCall (dDef 3 [] (dCall m_law_draw)) (aCons (eVar 9) (aCons (eCall dLen (aCons (eVarB 14) aNil)) (aCons (eC (.int 2)) aNil)))) (eC (.int 0)))) (f := eVar 14) (ρ := ρ st (.fz (.int c)) (.fz (.lst Z)) e11 e12 e13) (l := l) (l.map D.str) fun d hd => by
      obtain ⟨s, hs, rfl⟩ := List.mem_map.mp hd
      obtain ⟨v, _, _, hv⟩ := draw_is c s.length 2 (by decide)
      refine ⟨[.fz sp, .fz (.scr ns), .fz (Dn 3), .fz (Dn many), .fz (.bl true), .fz (nmD l), .fz st, .ow acc, .fz (Dn k), .fz (.int c), .fz (.lst Z), e11, e12, e13, .fz (.str s), .un, .un, .un], decide (v = 0), s, rfl, ?_, rfl, hs⟩
      exact eqE (call_ev (ds := [.int c, .int s.length, .int 2]) (a_cons rfl (a_cons (call_ev (ds := [.str s]) rfl (len_str (hl.2 s hs))) rfl)) hv)
    have hlc := lc_ev (fi := iOf (eVar 5)) (ρ := ρ st (.fz (.int c)) (.fz (.lst Z)) e11 e12 e13) (ds := l.map D.str) rfl y3 (by rw [List.length_map] at y2 ⊢; omega)
    refine ⟨(ys.map D.str).take 2, fun d hd => good_str hl y1 d (List.mem_of_mem_take hd), by rw [List.length_take]; omega, set_ev (i := 11) ?_⟩
    unfold eSl oSome oNone
    rw [hlc, bnd_ok]
    show some (Except.ok (D.lst (Tw.cutD (ys.map D.str) none (some 2)))) = _
    have : Tw.cutD (ys.map D.str) none (some 2) = (ys.map D.str).take 2 := by
      unfold Tw.cutD
      rw [HT.sIx_none, show (2 : Int) = ((2 : Nat) : Int) from rfl, HT.sIx_nat, List.drop_zero, Nat.sub_zero, ← List.take_eq_take_min]
    rw [this]
  obtain ⟨row1, dy', is', f12, hr1, hr1l, hd', hi', s3⟩ : ∃ row1 dy' is' f12, (∀ d ∈ row1, okN d) ∧ row1.length ≤ 3 ∧ dy' < wk ∧ okI is' (ss.map S.p) ∧ qs3 (ρ st (.fz (.int c)) (.fz (.lst Z)) (.fz (.lst row0)) e12 e13) = some (.nx (ρ (stD (Dn dy') is') (.fz (.int c)) (.fz (.lst Z)) (.fz (.lst row1)) f12 e13)) := by
    let ρa := ρ st (.fz (.int c)) (.fz (.lst Z)) (.fz (.lst row0)) e12 e13
    have bz : bT (eOp dNe (eVarB 10) (eLst aNil)) ρa = some (.ok (!decide (Z = []))) := bT_ev (op_ev (d := .lst Z) (e := .lst []) rfl rfl (ne_nilS hZ))
    by_cases z : Z = []
    · rw [decide_eq_true z] at bz
      exact ⟨row0, dy, is, e12, hr0, hr0l, hd, hi, if_f (and_f bz) rfl⟩
    · rw [decide_eq_false z] at bz
      obtain ⟨v, v0, v1, hv⟩ := draw_is c 5 8 (by decide)
      have bv : bT (eOp dGt (eCall (dDef 3 [] (dCall m_law_draw)) (aCons (eVar 9) (aCons (eC (.int 5)) (aCons (eC (.int 8)) aNil)))) (eC (.int 0))) ρa = some (.ok (decide (0 < v))) := bT_ev (op_ev (d := .int v) (e := .int 0) (call_ev (ds := [.int c, .int 5, .int 8]) rfl hv) rfl rfl)
      by_cases y : 0 < v
      · rw [decide_eq_true y] at bv
        have hZl : 0 < Z.length := List.length_pos_iff.mpr z
        obtain ⟨u, u0, u1, hu⟩ := draw_is c 6 Z.length (by omega)
        have hux : u.toNat < Z.length := by omega
        have hm : Z[u.toNat]? = some Z[u.toNat] := List.getElem?_eq_getElem hux
        obtain ⟨ch, dy', r, e, _, hdy', hr'⟩ := step_elem hi h.gap h8 h.w (List.getElem_mem hux)
        have hix : eOp dIx (eVarB 10) (eCall (dDef 3 [] (dCall m_law_draw)) (aCons (eVar 9) (aCons (eC (.int 6)) (aCons (eCall dLen (aCons (eVarB 10) aNil)) aNil)))) ρa = some (.ok (.tup [Dn ch, stD (Dn dy') r])) := by
          refine op_ev (d := .lst Z) (e := .int u) rfl (call_ev (ds := [.int c, .int 6, .int Z.length]) rfl hu) ?_
          rw [← Int.toNat_of_nonneg u0]
          rw [← e]
          exact ix_lst hm
        let ρb := ρ (stD (Dn dy') r) (.fz (.int c)) (.fz (.lst Z)) (.fz (.lst row0)) (.fz (Dn ch)) e13
        have sa : sUnp (gT (gsC (gN 12) (gsC (gN 6) gs0)) 2) (eOp dIx (eVarB 10) (eCall (dDef 3 [] (dCall m_law_draw)) (aCons (eVar 9) (aCons (eC (.int 6)) (aCons (eCall dLen (aCons (eVarB 10) aNil)) aNil))))) ρa = some (.nx ρb) := by
          unfold sUnp
          rw [hix, toS_ok]
          rfl
        have hrg : iRg dRng1 (aCons (eCall dLen (aCons (eVarB 5) aNil)) aNil) ρb = some (.ok ((List.range' 0 l.length).map Dn)) := by
          refine rg_ev (ds := [.int (l.map D.str).length]) rfl ?_
          rw [List.length_map]
          exact rng1_is _ (by omega)
        obtain ⟨ys, y1, y2, y3⟩ := pick_some (vs := [17]) (t := gN 17) (p := bT (eOp dEq (eOp dAnd (eOp dShr (eVarB 12) (eVarB 17)) (eC (.int 1))) (eC (.int 1)))) (f := eOp dIx (eVarB 5) (eVarB 17)) (ρ := ρb) (l := l) ((List.range' 0 l.length).map Dn) fun d hd => by
          obtain ⟨j, hj, rfl⟩ := List.mem_map.mp hd
          have hj' : j < l.length := by have := (List.mem_range'_1.mp hj).2; omega
          have hs : (l.map D.str)[j]? = some (.str l[j]) := by rw [List.getElem?_map, List.getElem?_eq_getElem hj']; rfl
          exact ⟨[.fz sp, .fz (.scr ns), .fz (Dn 3), .fz (Dn many), .fz (.bl true), .fz (nmD l), .fz (stD (Dn dy') r), .ow acc, .fz (Dn k), .fz (.int c), .fz (.lst Z), .fz (.lst row0), .fz (Dn ch), e13, .un, .un, .un, .fz (Dn j)], ch.testBit j, l[j], rfl, bit_ev rfl rfl, op_ev (d := nmD l) (e := Dn j) rfl rfl (ix_lst hs), List.getElem_mem hj'⟩
        rw [List.length_map, List.length_range'] at y2
        refine ⟨ys.map D.str, dy', r, .fz (Dn ch), good_str hl y1, by rw [List.length_map]; omega, hdy', hr', if_t (and_t bz bv) ((seq_nx sa).trans (set_ev (i := 11) (lc_ev hrg y3 (by rw [List.length_map]; omega))))⟩
      · rw [decide_eq_false y] at bv
        exact ⟨row0, dy, is, e12, hr0, hr0l, hd, hi, if_f (and_t bz bv) rfl⟩
  let st' := stD (Dn dy') is'
  obtain ⟨row2, f13, hr2, hr2l, s4⟩ : ∃ row2 f13, (∀ d ∈ row2, okN d) ∧ row2.length ≤ 8 ∧ qs4 (ρ st' (.fz (.int c)) (.fz (.lst Z)) (.fz (.lst row1)) f12 e13) = some (.nx (ρ st' (.fz (.int c)) (.fz (.lst Z)) (.fz (.lst row2)) f12 f13)) := by
    let ρa := ρ st' (.fz (.int c)) (.fz (.lst Z)) (.fz (.lst row1)) f12 e13
    obtain ⟨v, v0, v1, hv⟩ := draw_is c 7 12 (by decide)
    have bv : bAnd (bT (eVarB 4)) (bT (eOp dEq (eCall (dDef 3 [] (dCall m_law_draw)) (aCons (eVar 9) (aCons (eC (.int 7)) (aCons (eC (.int 12)) aNil)))) (eC (.int 0)))) ρa = some (.ok (decide (v = 0))) := and_t rfl (eqE (call_ev (ds := [.int c, .int 7, .int 12]) rfl hv))
    by_cases y : v = 0
    · rw [decide_eq_true y] at bv
      obtain ⟨n0, hn0⟩ : ∃ n0, l[0]? = some n0 := ⟨l[0]'hl1, List.getElem?_eq_getElem hl1⟩
      have hn0m : n0 ∈ l := List.mem_of_getElem? hn0
      have hs0 : (l.map D.str)[0]? = some (.str n0) := by rw [List.getElem?_map, hn0]; rfl
      have i0 : eOp dIx (eVarB 5) (eC (.int 0)) ρa = some (.ok (.str n0)) := op_ev (d := nmD l) (e := Dn 0) rfl rfl (ix_lst hs0)
      let odd : List (List D) := [[.str n0], [.str "zz"], [.str n0, .str n0, .str "zz"], [.non], [.int 3], [.lst [.str "ivy"]], [.str ""], [.str "ivy\n"]]
      have hodd : ∀ r ∈ odd, (∀ d ∈ r, okN d) ∧ r.length ≤ 3 := by
        have k0 : okN (.str n0) := .inl ⟨n0, rfl, hl.2 n0 hn0m⟩
        have kz : okN (.str "zz") := .inl ⟨"zz", rfl, by decide +kernel⟩
        have ke : okN (.str "") := .inl ⟨"", rfl, by decide +kernel⟩
        have kn : okN (.str "ivy\n") := .inl ⟨"ivy\n", rfl, by decide +kernel⟩
        intro r hr
        simp only [odd, List.mem_cons, List.not_mem_nil, or_false] at hr
        rcases hr with rfl | rfl | rfl | rfl | rfl | rfl | rfl | rfl <;> refine ⟨fun d hd => ?_, by simp⟩ <;> simp only [List.mem_cons, List.not_mem_nil, or_false] at hd
        · rw [hd]; exact k0
        · rw [hd]; exact kz
        · rcases hd with rfl | rfl | rfl
          · exact k0
          · exact k0
          · exact kz
        · rw [hd]; exact .inr (.inl rfl)
        · rw [hd]; exact .inr (.inr (.inl rfl))
        · rw [hd]; exact .inr (.inr (.inr rfl))
        · rw [hd]; exact ke
        · rw [hd]; exact kn
      obtain ⟨u, u0, u1, hu⟩ := draw_is c 4 8 (by decide)
      have hux : u.toNat < odd.length := by show u.toNat < 8; omega
      have hm : (odd.map D.lst)[u.toNat]? = some (.lst odd[u.toNat]) := by rw [List.getElem?_map, List.getElem?_eq_getElem hux]; rfl
      obtain ⟨ho1, ho2⟩ := hodd _ (List.getElem_mem hux)
      have l1 : ∀ {f : Ro → EM D} {d : D}, f ρa = some (.ok d) → eLst (aCons f aNil) ρa = some (.ok (.lst [d])) := fun e => lst_ev (n := 1) (a_cons e rfl) (Nat.le_refl 1)
      have hlst : qs4odd ρa = some (.ok (.lst (odd.map D.lst))) := by
        refine lst_ev (n := 8) (a_cons (l1 i0) (a_cons (l1 rfl) (a_cons (lst_ev (n := 3) (a_cons i0 (a_cons i0 (a_cons rfl rfl))) (Nat.le_refl 3)) (a_cons (l1 rfl) (a_cons (l1 rfl) (a_cons (l1 (l1 rfl)) (a_cons (l1 rfl) (a_cons (l1 rfl) rfl)))))))) (Nat.le_refl 8)
      let ρb := ρ st' (.fz (.int c)) (.fz (.lst Z)) (.fz (.lst row1)) f12 (.fz (.lst (odd.map D.lst)))
      have sa : sSet 13 qs4odd ρa = some (.nx ρb) := set_ev (i := 13) hlst
      refine ⟨row1 ++ odd[u.toNat], .fz (.lst (odd.map D.lst)), fun d hd => ?_, by rw [List.length_append]; omega, if_t bv ((seq_nx sa).trans (set_ev (i := 11) (op_ev (d := .lst row1) (e := .lst odd[u.toNat]) rfl (op_ev (d := .lst (odd.map D.lst)) (e := .int u) rfl (call_ev (ds := [.int c, .int 4, .int 8]) rfl hu) ?_) (cat_lst _ _ (by omega)))))⟩
      · rcases List.mem_append.mp hd with q | q
        · exact hr1 d q
        · exact ho1 d q
      · have e := ix_lst hm
        rw [Int.toNat_of_nonneg u0] at e
        exact e
    · rw [decide_eq_false y] at bv
      exact ⟨row1, e13, hr1, by omega, if_f bv rfl⟩
  let ρc := ρ st' (.fz (.int c)) (.fz (.lst Z)) (.fz (.lst row2)) f12 f13
  have bc : bT (eOp dEq (eOp dMod (eVarB 9) (eC (.int 3))) (eC (.int 0))) ρc = some (.ok (decide (c % 3 = 0))) := eqE (modE (i := c) rfl (by decide))
  obtain ⟨row3, hr3, hr3l, e3⟩ : ∃ row3, (∀ d ∈ row3, okN d) ∧ row3.length ≤ 8 ∧ eIf (bT (eOp dEq (eOp dMod (eVarB 9) (eC (.int 3))) (eC (.int 0)))) (e1 dRevL (eVarB 11)) (eVar 11) ρc = some (.ok (.lst row3)) := by
    by_cases y : c % 3 = 0
    · rw [decide_eq_true y] at bc
      refine ⟨row2.reverse, fun d hd => hr2 d (List.mem_reverse.mp hd), by rw [List.length_reverse]; exact hr2l, ?_⟩
      exact eif_tt bc rfl
    · rw [decide_eq_false y] at bc
      refine ⟨row2, hr2, hr2l, ?_⟩
      unfold eIf
      rw [bc, bnd_ok, if_neg (by decide)]
      rfl
  have s5 : qs5 ρc = some (.nx (roQ sp ns many l st' (acc ++ [.lst row3]) (.fz (Dn k)) (.fz (.int c)) (.fz (.lst Z)) (.fz (.lst row2)) f12 f13)) := app_ev (i := 7) (ds := acc) rfl e3 (by omega)
  exact ⟨row3, dy', is', _, _, _, _, _, hr3, hr3l, hd', hi', (seq_nx s0).trans ((seq_nx s1).trans ((seq_nx s2).trans ((seq_nx s3).trans ((seq_nx s4).trans s5))))⟩
theorem rows_go (h : Sok ss cans wk cl) (h3 : ss.length ≤ 3) (hl : okL (nmS ss)) {many : Nat} : ∀ (m k : Nat) (rows : List (List D)) (dy : Nat) (is : List Int) (e8 e9 e10 e11 e12 e13 : Ent), k + m ≤ 40 → rows.length = k → okR rows → dy < wk → okI is (ss.map S.p) →
    ∃ rows' st' f8 f9 f10 f11 f12 f13, okR rows' ∧ rows'.length = k + m ∧ forD (gN 8) bQ ((List.range' k m).map Dn) (roQ (spD3 ss cans wk cl) ns many (nmS ss) (stD (Dn dy) is) (rows.map D.lst) e8 e9 e10 e11 e12 e13) = some (.nx (roQ (spD3 ss cans wk cl) ns many (nmS ss) st' (rows'.map D.lst) f8 f9 f10 f11 f12 f13))
  | 0, k, rows, dy, is, e8, e9, e10, e11, e12, e13, _, hk, hr, _, _ => ⟨rows, _, e8, e9, e10, e11, e12, e13, hr, by omega, rfl⟩
  | m + 1, k, rows, dy, is, e8, e9, e10, e11, e12, e13, hkm, hk, hr, hd, hi => by
    obtain ⟨row, dy', is', f9, f10, f11, f12, f13, q1, q2, q3, q4, q5⟩ := row_step (ns := ns) h h3 hl (many := many) (k := k) (by omega) hd hi (acc := rows.map D.lst) (by rw [List.length_map]; omega) (e9 := e9) (e10 := e10) (e11 := e11) (e12 := e12) (e13 := e13)
    have hr' : okR (rows ++ [row]) := fun r hm => by
      rcases List.mem_append.mp hm with z | z
      · exact hr r z
      · rw [List.mem_singleton.mp z]; exact ⟨q1, q2⟩
    obtain ⟨rows', st', g8, g9, g10, g11, g12, g13, a, b, f⟩ := rows_go h h3 hl (many := many) m (k + 1) (rows ++ [row]) dy' is' (.fz (Dn k)) f9 f10 f11 f12 f13 (by omega) (by rw [List.length_append, hk]; rfl) hr' q3 q4
    refine ⟨rows', st', g8, g9, g10, g11, g12, g13, a, by omega, ?_⟩
    rw [List.range'_succ, List.map_cons]
    refine (for_cons (ρ1 := roQ (spD3 ss cans wk cl) ns many (nmS ss) (stD (Dn dy) is) (rows.map D.lst) (.fz (Dn k)) e9 e10 e11 e12 e13) rfl q5).trans ?_
    rw [List.map_append] at f
    exact f
theorem rows_is (h : Sok ss cans wk cl) (h3 : ss.length ≤ 3) (hl : okL (nmS ss)) {many : Nat} (hm : many ≤ 40) : ∃ rows, okR rows ∧ rows.length = many ∧ m_law_rows [spD3 ss cans wk cl, .scr ns, Dn 3, Dn many, .bl true] = some (.reto (rows.map D.lst)) := by
  let sp := spD3 ss cans wk cl
  obtain ⟨rows, st', f8, f9, f10, f11, f12, f13, a, b, f⟩ := rows_go (ns := ns) h h3 hl (many := many) many 0 [] 0 (List.replicate ss.length 0) .un .un .un .un .un .un (by omega) rfl (fun r hm => nomatch hm) h.w.1 (zero_ok ss h.g1)
  refine ⟨rows, a, by omega, ?_⟩
  let ρ5 : Ro := [.fz sp, .fz (.scr ns), .fz (Dn 3), .fz (Dn many), .fz (.bl true), .fz (nmD (nmS ss)), .un, .un, .un, .un, .un, .un, .un, .un, .un, .un, .un, .un]
  have s0 : rw0 (startE 18 [sp, .scr ns, Dn 3, Dn many, .bl true]) = some (.nx ρ5) :=
    set_ev (i := 5) (nm_ev h rfl fun s => ⟨[.fz sp, .fz (.scr ns), .fz (Dn 3), .fz (Dn many), .fz (.bl true), .un, .un, .un, .un, .un, .un, .un, .un, .un, .fz (.str s.nm), .fz (.int s.gap), .fz (.int s.rest), .un], rfl, rfl⟩)
  let ρ6 : Ro := [.fz sp, .fz (.scr ns), .fz (Dn 3), .fz (Dn many), .fz (.bl true), .fz (nmD (nmS ss)), .fz (stD (Dn 0) (List.replicate ss.length 0)), .un, .un, .un, .un, .un, .un, .un, .un, .un, .un, .un]
  have s1 : rw1 ρ5 = some (.nx ρ6) := by
    have e : eLc [14] (gN 14) (iOf (eVar 5)) bYes (eC (.int 0)) ρ5 = some (.ok (.lst ((List.replicate ss.length (0 : Int)).map D.int))) := by
      refine lc_ev (ds := (nmS ss).map D.str) rfl ?_ (by have := h.n8; simp; omega)
      rw [lc_map (F := fun _ => .int 0)]
      · rw [List.map_map, List.map_map, List.map_replicate]
        exact congrArg some (List.map_const' ..)
      · intro d _
        exact ⟨_, rfl, rfl, rfl⟩
    exact set_ev (i := 6) (tup_ev (ds := [.int 0, .tup ((List.replicate ss.length (0 : Int)).map D.int)]) (a_cons rfl (a_cons (call_ev (ds := [.lst ((List.replicate ss.length (0 : Int)).map D.int)]) (a_cons e rfl) rfl) rfl)) (n := 2) (Nat.le_refl 2))
  have s2 : rw2 ρ6 = some (.nx (roQ sp ns many (nmS ss) (stD (Dn 0) (List.replicate ss.length 0)) [] .un .un .un .un .un .un)) := rfl
  have rg : iRg dRng1 (aCons (eVarB 3) aNil) (roQ sp ns many (nmS ss) (stD (Dn 0) (List.replicate ss.length 0)) [] .un .un .un .un .un .un) = some (.ok ((List.range' 0 many).map Dn)) := rg_ev (ds := [Dn many]) rfl (rng1_is _ (by omega))
  rw [rw_row]
  exact congrArg outOf ((seq_nx s0).trans ((seq_nx s1).trans ((seq_nx s2).trans ((seq_nx (for_ev rg f)).trans rfl))))
end
end K06
namespace K06
open PySem PySem.Spec PyProof.Rows L2 Tw
noncomputable abbrev lw0 : Ro → Option Fl := (sSet 1 (eCall (dDef 2 [] (dCall m_law_spec)) (aCons (eVar 0) (aCons (eC (.int 0)) aNil))))
noncomputable abbrev lw1 : Ro → Option Fl := (sSet 2 (eCall (dDef 1 [] (dCall m_law_garden)) (aCons (eVar 1) aNil)))
noncomputable abbrev lw2 : Ro → Option Fl := (sSet 3 (eCall (dDef 5 [] (dCall m_law_rows)) (aCons (eVar 1) (aCons (eVar 0) (aCons (eC (.int 3)) (aCons (eCall dMin2 (aCons (eC (.int 40)) (aCons (eCall dMax2 (aCons (eC (.int 0)) (aCons (eOp dSub (eCall dLen (aCons (eVarB 0) aNil)) (eC (.int 3))) aNil))) aNil))) (aCons (eC (.bl true)) aNil)))))))
noncomputable abbrev lw3 : Ro → Option Fl := (sSet 4 (eCall (dDef 1 [] (dCall m_law_states)) (aCons (eVar 1) aNil)))
noncomputable abbrev lw4 : Ro → Option Fl := (sSet 5 (eOp dIx (eVarB 4) (eOp dMod (eCall (dDef 2 [] (dCall m_law_cell_at)) (aCons (eVar 0) (aCons (eC (.int 3)) aNil))) (eCall dLen (aCons (eVarB 4) aNil)))))
noncomputable abbrev lw5 : Ro → Option Fl := (sSet 6 (eOp dMulU (eOp dMod (eCall (dDef 2 [] (dCall m_law_cell_at)) (aCons (eVar 0) (aCons (eC (.int 4)) aNil))) (eC (.int 1000))) (eOp dMod (eOp dDiv (eCall (dDef 2 [] (dCall m_law_cell_at)) (aCons (eVar 0) (aCons (eC (.int 4)) aNil))) (eC (.int 1000))) (eC (.int 2)))))
noncomputable abbrev lw6 : Ro → Option Fl := (sFor (gN 7) (iOf (eLst (aCons (eCall dLen (aCons (eVarB 3) aNil)) (aCons (eOp dDiv (eCall dLen (aCons (eVarB 3) aNil)) (eC (.int 2))) (aCons (eC (.int 1)) (aCons (eC (.int 0)) aNil))))))
      (sSeq (sIf (bNot (bT (eCall (dDef 6 [] (dCall m_law_right)) (aCons (eVar 2) (aCons (eVar 1) (aCons (eSl dSlU (eVarB 3) oNone (oSome (eVarB 7))) (aCons (eOp dIx (eVarB 4) (eC (.int 0))) (aCons (eC (.int 0)) (aCons (eC (.int 0)) aNil)))))))))
        (sRet (eC (.bl false)))
        sNil)
      (sIf (bNot (bT (eCall (dDef 6 [] (dCall m_law_right)) (aCons (eVar 2) (aCons (eVar 1) (aCons (eSl dSlU (eVarB 3) oNone (oSome (eVarB 7))) (aCons (eVar 5) (aCons (eVar 6) (aCons (eC (.int 1)) aNil)))))))))
        (sRet (eC (.bl false)))
        sNil)))
noncomputable abbrev lw7 : Ro → Option Fl := (sSet 8 (eLst (aCons (eTup (aCons (eC (.str "a")) (aCons (eC (.int 1)) (aCons (e1 dNeg (eC (.int 1))) aNil)))) (aCons (eTup (aCons (eC (.str "b")) (aCons (eC (.int 1)) (aCons (e1 dNeg (eC (.int 1))) aNil)))) aNil))))
noncomputable abbrev lw8 : Ro → Option Fl := (sIf (bT (eOp dNe (eCall (dDef 2 [] (dCall m_kept)) (aCons (eCall (dDef 1 [] (dCall m_law_garden)) (aCons (eTup (aCons (eVar 8) (aCons (eC (.int 0)) (aCons (eC (.int 1)) (aCons (eC (.int 0)) aNil))))) aNil)) (aCons (eLst (aCons (eLst aNil) aNil)) aNil))) (eTup (aCons (eC (.bl false)) (aCons (eC (.int 0)) (aCons (eC (.str "a")) aNil))))))
      (sRet (eC (.bl false)))
      sNil)
noncomputable abbrev lw9 : Ro → Option Fl := (sIf (bNot (bT (eCall (dDef 6 [] (dCall m_law_right)) (aCons (eCall (dDef 1 [] (dCall m_law_garden)) (aCons (eTup (aCons (eVar 8) (aCons (eC (.int 2)) (aCons (eC (.int 1)) (aCons (eC (.int 0)) aNil))))) aNil)) (aCons (eTup (aCons (eVar 8) (aCons (eC (.int 2)) (aCons (eC (.int 1)) (aCons (eC (.int 0)) aNil))))) (aCons (eLst (aCons (eLst (aCons (eC (.str "a")) (aCons (eC (.str "a")) aNil))) aNil)) (aCons (eTup (aCons (eC (.int 0)) (aCons (eTup (aCons (eC (.int 0)) (aCons (eC (.int 0)) aNil))) aNil))) (aCons (eC (.int 0)) (aCons (eC (.int 0)) aNil)))))))))
      (sRet (eC (.bl false)))
      sNil)
noncomputable abbrev lw10 : Ro → Option Fl := (sTryAs 9 ct_GardenError
      (sDrop (eCall (dDef 4 [.int 0] (dCall m_followed)) (aCons (eVar 2) (aCons (eVar 3) (aCons (eTup (aCons (e1 (dFld "week") (eVarB 2)) (aCons (eOp dIx (eVarB 5) (eC (.int 1))) aNil))) aNil)))))
      (fun y => (sRet (eAnd (eOp dEq (eTk 9 (dCall (fun _ => m_law_sorts y) [])) (eOp dAddU (eOp dMulU (eLst (aCons (eC (.bl false)) aNil)) (eC (.int 5))) (eLst (aCons (eC (.bl true)) aNil)))) (eTk 9 (dIsE isE_ValueError y))))))
noncomputable abbrev lw11 : Ro → Option Fl := (sRet (eC (.bl false)))
theorem lw_row : m_law = runD (["_law_script", "_law_spec_here", "_law_garden_here", "_law_rows_here", "_law_states_here", "_law_state", "_law_first", "_law_many", "_law_two", "_law_error"] : List Str).length (sSeq lw0 (sSeq lw1 (sSeq lw2 (sSeq lw3 (sSeq lw4 (sSeq lw5 (sSeq lw6 (sSeq lw7 (sSeq lw8 (sSeq lw9 (sSeq lw10 lw11))))))))))) := rfl

noncomputable abbrev bMany : Ro → Option Fl := (sSeq (sIf (bNot (bT (eCall (dDef 6 [] (dCall m_law_right)) (aCons (eVar 2) (aCons (eVar 1) (aCons (eSl dSlU (eVarB 3) oNone (oSome (eVarB 7))) (aCons (eOp dIx (eVarB 4) (eC (.int 0))) (aCons (eC (.int 0)) (aCons (eC (.int 0)) aNil)))))))))
        (sRet (eC (.bl false)))
        sNil)
      (sIf (bNot (bT (eCall (dDef 6 [] (dCall m_law_right)) (aCons (eVar 2) (aCons (eVar 1) (aCons (eSl dSlU (eVarB 3) oNone (oSome (eVarB 7))) (aCons (eVar 5) (aCons (eVar 6) (aCons (eC (.int 1)) aNil)))))))))
        (sRet (eC (.bl false)))
        sNil))
abbrev hanS : Xn → Ro → Option Fl := (fun y => (sRet (eAnd (eOp dEq (eTk 9 (dCall (fun _ => m_law_sorts y) [])) (eOp dAddU (eOp dMulU (eLst (aCons (eC (.bl false)) aNil)) (eC (.int 5))) (eLst (aCons (eC (.bl true)) aNil)))) (eTk 9 (dIsE isE_ValueError y)))))
theorem hanS_is (e0 e1 e2 e3 e4 e5 e6 e7 e8 : Ent) : hanS .noState [e0, e1, e2, e3, e4, e5, e6, e7, e8, .tk 0] = some (.rt (.bl true)) := by kernel_rfl
abbrev two : List S := [⟨"a", 1, -1⟩, ⟨"b", 1, -1⟩]
abbrev ks2 : List (Str × Int) := [(("a" : Str), (0 : Int)), (("b" : Str), (1 : Int))]
theorem two_ks : namesS (nmS two) [] = some ks2 := by kernel_rfl
theorem two_nm : ∀ s ∈ two, m_is_name [.str s.nm] = some (.ret (.bl true)) := fun s hs => by
  simp only [two, List.mem_cons, List.not_mem_nil, or_false] at hs
  rcases hs with rfl | rfl
  · kernel_rfl
  · kernel_rfl
theorem two_ok {c : Int} (hc : 0 ≤ c ∧ c ≤ 8) : Sok two c 1 0 where
  n1 := by decide
  n8 := by decide
  g := fun s hs => by
    simp only [two, List.mem_cons, List.not_mem_nil, or_false] at hs
    rcases hs with rfl | rfl <;> exact ⟨by decide, by decide, by decide, by decide⟩
  nm := two_nm
  ks := ⟨_, two_ks⟩
  cn := hc
  w := by decide
  c := by decide
  z := by decide
theorem two_l : okL (nmS two) := ⟨by decide, fun s hs => by
  simp only [two, nmS, List.map_cons, List.map_nil, List.mem_cons, List.not_mem_nil, or_false] at hs
  rcases hs with rfl | rfl <;> decide +kernel⟩
theorem two_dry : plF two 0 1 0 0 0 (List.replicate two.length 0) [[]] = .dry 0 "a" := by rfl
theorem Nm_l {ss : List S} (h8 : ss.length ≤ 8) (h : ∀ s ∈ ss, ∃ j, j < 5 ∧ s.nm = nm5 j) : okL (nmS ss) := ⟨by rw [List.length_map]; exact h8, fun s hs => by
  obtain ⟨t, ht, rfl⟩ := List.mem_map.mp hs
  obtain ⟨j, hj, e⟩ := h t ht
  rw [e]
  exact nm5_sm j hj⟩
section
variable {ss : List S} {cans : Int} {wk cl : Nat} {ks : List (Str × Int)} {ns : List Int}
abbrev roM (ns : List Int) (sp g : D) (rows : List (List D)) (sts : List D) (st : D) (first : Int) (e7 e8 : Ent) : Ro := [.fz (.scr ns), .fz sp, .fz g, .fz (rwD rows), .fz (.lst sts), .fz st, .fz (.int first), e7, e8, .un]
theorem okR_take {rows : List (List D)} (h : okR rows) (m : Nat) : okR (rows.take m) := fun r hr => h r (List.mem_of_mem_take hr)
theorem slice_ev {sp g st : D} {rows : List (List D)} {sts : List D} {first : Int} {m : Nat} {e8 : Ent} : eSl dSlU (eVarB 3) oNone (oSome (eVarB 7)) (roM ns sp g rows sts st first (.fz (Dn m)) e8) = some (.ok (rwD (rows.take m))) := by
  show some (Except.ok (D.lst (Tw.cutD (rows.map D.lst) none (some (m : Int))))) = _
  have : Tw.cutD (rows.map D.lst) none (some (m : Int)) = (rows.take m).map D.lst := by
    unfold Tw.cutD
    rw [HT.sIx_none, HT.sIx_nat, List.drop_zero, Nat.sub_zero, ← List.take_eq_take_min, List.map_take]
  rw [this]
theorem many_step (h : Sok ss cans wk cl) (hk : namesS (nmS ss) [] = some ks) (hl : okL (nmS ss)) {rows : List (List D)} (hr : okR rows) (hrl : rows.length ≤ 40) {first : Int} {dy : Nat} {is : List Int} (hd : dy < wk) (hi : okI is (ss.map S.p)) (hf : 0 ≤ first ∧ first < 1000) {m : Nat} {e8 : Ent} :
    bMany (roM ns (spD3 ss cans wk cl) (gdD (ss.map S.p) cans wk cl ks) rows (statesF ss wk) (stD (Dn dy) is) first (.fz (Dn m)) e8) = some (.nx (roM ns (spD3 ss cans wk cl) (gdD (ss.map S.p) cans wk cl ks) rows (statesF ss wk) (stD (Dn dy) is) first (.fz (Dn m)) e8)) := by
  let sp := spD3 ss cans wk cl
  let g := gdD (ss.map S.p) cans wk cl ks
  let ρ := roM ns sp g rows (statesF ss wk) (stD (Dn dy) is) first (.fz (Dn m)) e8
  have hlen : (rows.take m).length ≤ 40 := by rw [List.length_take]; omega
  have h0 : eOp dIx (eVarB 4) (eC (.int 0)) ρ = some (.ok (stD (Dn 0) (List.replicate ss.length 0))) := op_ev (d := .lst (statesF ss wk)) (e := Dn 0) rfl rfl (ix_lst (states_head h.w.1 h.g1))
  have a1 := right_is h hk hl (okR_take hr m) hlen (first := 0) (way := 0) (dy := 0) (is := List.replicate ss.length 0) h.w.1 (zero_ok ss h.g1) (by decide) (.inl ⟨rfl, rfl, rfl, rfl⟩)
  have a2 := right_is h hk hl (okR_take hr m) hlen (first := first) (way := 1) hd hi hf (.inr rfl)
  exact (seq_nx (if_f (nbref (call_ev (ds := [g, sp, rwD (rows.take m), stD (Dn 0) (List.replicate ss.length 0), .int 0, .int 0]) (a_cons rfl (a_cons rfl (a_cons slice_ev (a_cons h0 (a_cons rfl (a_cons rfl rfl)))))) a1)) rfl)).trans
    (if_f (nbref (call_ev (ds := [g, sp, rwD (rows.take m), stD (Dn dy) is, .int first, .int 1]) (a_cons rfl (a_cons rfl (a_cons slice_ev (a_cons rfl (a_cons rfl (a_cons rfl rfl)))))) a2)) rfl)
theorem many_go (h : Sok ss cans wk cl) (hk : namesS (nmS ss) [] = some ks) (hl : okL (nmS ss)) {rows : List (List D)} (hr : okR rows) (hrl : rows.length ≤ 40) {first : Int} {dy : Nat} {is : List Int} (hd : dy < wk) (hi : okI is (ss.map S.p)) (hf : 0 ≤ first ∧ first < 1000) {e8 : Ent} : ∀ (ms : List Nat) (e7 : Ent),
    ∃ f7, forD (gN 7) bMany (ms.map Dn) (roM ns (spD3 ss cans wk cl) (gdD (ss.map S.p) cans wk cl ks) rows (statesF ss wk) (stD (Dn dy) is) first e7 e8) = some (.nx (roM ns (spD3 ss cans wk cl) (gdD (ss.map S.p) cans wk cl ks) rows (statesF ss wk) (stD (Dn dy) is) first f7 e8))
  | [], e7 => ⟨e7, rfl⟩
  | m :: ms, e7 => by
    obtain ⟨f7, ih⟩ := many_go h hk hl hr hrl hd hi hf (e8 := e8) ms (.fz (Dn m))
    exact ⟨f7, (for_cons (ρ1 := roM ns (spD3 ss cans wk cl) (gdD (ss.map S.p) cans wk cl ks) rows (statesF ss wk) (stD (Dn dy) is) first (.fz (Dn m)) e8) rfl (many_step h hk hl hr hrl hd hi hf)).trans ih⟩
theorem lw8_is {sp g st : D} {rows : List (List D)} {sts : List D} {first : Int} {e7 : Ent} : lw8 (roM ns sp g rows sts st first e7 (.fz (.lst (two.map S.d)))) = some (.nx (roM ns sp g rows sts st first e7 (.fz (.lst (two.map S.d))))) := by
  have h := two_ok (c := 0) (by decide)
  have hk := kept_is h two_ks (rows := [[]]) (fun r hr => by rw [List.mem_singleton.mp hr]; exact ⟨fun d hd => (nomatch hd), by decide⟩) (by decide)
  rw [two_dry] at hk
  have e1 : eCall (dDef 1 [] (dCall m_law_garden)) (aCons (eTup (aCons (eVar 8) (aCons (eC (.int 0)) (aCons (eC (.int 1)) (aCons (eC (.int 0)) aNil))))) aNil) (roM ns sp g rows sts st first e7 (.fz (.lst (two.map S.d)))) = some (.ok (gdD (two.map S.p) 0 (1 : Nat) (0 : Nat) ks2)) :=
    call_ev (ds := [spD3 two 0 (1 : Nat) 0]) (a_cons (tup_ev (n := 4) (a_cons rfl (a_cons rfl (a_cons rfl (a_cons rfl rfl)))) (Nat.le_refl 4)) rfl) ((def_all rfl).trans (call_ret (garden_isk h two_ks)))
  have e2 : eCall (dDef 2 [] (dCall m_kept)) (aCons (eCall (dDef 1 [] (dCall m_law_garden)) (aCons (eTup (aCons (eVar 8) (aCons (eC (.int 0)) (aCons (eC (.int 1)) (aCons (eC (.int 0)) aNil))))) aNil)) (aCons (eLst (aCons (eLst aNil) aNil)) aNil)) (roM ns sp g rows sts st first e7 (.fz (.lst (two.map S.d)))) = some (.ok (.tup [.bl false, .int (0 + (0 : Nat)), .str "a"])) :=
    call_ev (ds := [gdD (two.map S.p) 0 (1 : Nat) (0 : Nat) ks2, rwD [[]]]) (a_cons e1 (a_cons (lst_ev (n := 1) (a_cons (lst_ev (n := 0) rfl (Nat.le_refl 0)) rfl) (Nat.le_refl 1)) rfl)) ((def_all rfl).trans (call_ret hk))
  exact if_f (bT_ev (op_ev (d := .tup [.bl false, .int 0, .str "a"]) (e := .tup [.bl false, .int 0, .str "a"]) e2 (tup_ev (n := 3) (a_cons rfl (a_cons rfl (a_cons rfl rfl))) (Nat.le_refl 3)) (eq_tup (by decide +kernel)).2)) rfl
theorem lw9_is {sp g st : D} {rows : List (List D)} {sts : List D} {first : Int} {e7 : Ent} : lw9 (roM ns sp g rows sts st first e7 (.fz (.lst (two.map S.d)))) = some (.nx (roM ns sp g rows sts st first e7 (.fz (.lst (two.map S.d))))) := by
  have h := two_ok (c := 2) (by decide)
  have hka : okN (.str "a") := .inl ⟨"a", rfl, by decide +kernel⟩
  have hr := right_is h two_ks two_l (rows := [[.str "a", .str "a"]]) (fun r hr => by
    rw [List.mem_singleton.mp hr]
    refine ⟨fun d hd => ?_, by decide⟩
    simp only [List.mem_cons, List.not_mem_nil, or_false] at hd
    rcases hd with rfl | rfl <;> exact hka) (by decide) (first := 0) (way := 0) (dy := 0) (is := List.replicate two.length 0) (by decide) (zero_ok two h.g1) (by decide) (.inl ⟨rfl, rfl, rfl, rfl⟩)
  have e0 : eTup (aCons (eVar 8) (aCons (eC (.int 2)) (aCons (eC (.int 1)) (aCons (eC (.int 0)) aNil)))) (roM ns sp g rows sts st first e7 (.fz (.lst (two.map S.d)))) = some (.ok (spD3 two 2 (1 : Nat) 0)) := tup_ev (n := 4) (a_cons rfl (a_cons rfl (a_cons rfl (a_cons rfl rfl)))) (Nat.le_refl 4)
  have e1 : eCall (dDef 1 [] (dCall m_law_garden)) (aCons (eTup (aCons (eVar 8) (aCons (eC (.int 2)) (aCons (eC (.int 1)) (aCons (eC (.int 0)) aNil))))) aNil) (roM ns sp g rows sts st first e7 (.fz (.lst (two.map S.d)))) = some (.ok (gdD (two.map S.p) 2 (1 : Nat) (0 : Nat) ks2)) :=
    call_ev (ds := [spD3 two 2 (1 : Nat) 0]) (a_cons e0 rfl) ((def_all rfl).trans (call_ret (garden_isk h two_ks)))
  exact if_f (nbref (call_ev (ds := [gdD (two.map S.p) 2 (1 : Nat) (0 : Nat) ks2, spD3 two 2 (1 : Nat) 0, rwD [[.str "a", .str "a"]], stD (Dn 0) (List.replicate two.length 0), .int 0, .int 0])
    (a_cons e1 (a_cons e0 (a_cons (lst_ev (n := 1) (a_cons (lst_ev (n := 2) (a_cons rfl (a_cons rfl rfl)) (Nat.le_refl 2)) rfl) (Nat.le_refl 1)) (a_cons (tup_ev (n := 2) (a_cons rfl (a_cons (tup_ev (n := 2) (a_cons rfl (a_cons rfl rfl)) (Nat.le_refl 2)) rfl)) (Nat.le_refl 2)) (a_cons rfl (a_cons rfl rfl)))))) hr)) rfl
theorem lw10_is {sp st : D} {rows : List (List D)} {sts : List D} {first : Int} {dy : Nat} {is : List Int} {e7 e8 : Ent} (h7 : noTk [e7, e8] = true) : lw10 (roM ns sp (gdD (ss.map S.p) cans wk cl ks) rows sts (stD (Dn dy) is) first e7 e8) = some (.rt (.bl true)) := by
  let g := gdD (ss.map S.p) cans wk cl ks
  let ρ := roM ns sp g rows sts (stD (Dn dy) is) first e7 e8
  have hex : m_followed [g, rwD rows, .tup [.int (wk : Int), .tup (is.map D.int)], .int 0] = some (.exc .noState) :=
    run_exc (seq_ex (drop_er (meth_ev (m := m_Garden_number) (c := .garden) (ds := [.tup [.int (wk : Int), .tup (is.map D.int)]]) rfl rfl rfl rfl (call_exc (num_day (.inr (Int.le_refl _)))))))
  have hb : sDrop (eCall (dDef 4 [.int 0] (dCall m_followed)) (aCons (eVar 2) (aCons (eVar 3) (aCons (eTup (aCons (e1 (dFld "week") (eVarB 2)) (aCons (eOp dIx (eVarB 5) (eC (.int 1))) aNil))) aNil)))) ρ = some (.ex .noState ρ) :=
    drop_er (call_ev (ds := [g, rwD rows, .tup [.int (wk : Int), .tup (is.map D.int)]]) (a_cons rfl (a_cons rfl (a_cons (tup_ev (n := 2) (a_cons rfl (a_cons rfl rfl)) (Nat.le_refl 2)) rfl))) ((def_dd rfl).trans (call_exc hex)))
  refine try_rt hb rfl ?_ (hanS_is _ _ _ _ _ _ _ _ _)
  have : noTk ρ = noTk [e7, e8, .un] := rfl
  rw [this]
  unfold noTk at h7 ⊢
  rw [List.all_cons, List.all_cons] at h7
  rw [List.all_cons, List.all_cons]
  simp only [List.all_nil, Bool.and_true] at h7
  rw [Bool.and_eq_true] at h7
  rw [h7.1, h7.2]; rfl
end
theorem noTk_fz7 {e7 : Ent} {ms : List Nat} : True := trivial
theorem plain : ∀ ns : List Int, ns.length ≤ 63 → m_law [.scr ns] = some (.ret (.bl true)) := fun ns hns => by
  obtain ⟨ss, cans, wk, cl, h, h3, hb, hsp⟩ := spec_is ns 0
  obtain ⟨ks, hk⟩ := h.ks
  have hl : okL (nmS ss) := Nm_l h.n8 fun s hs => (hb s hs).2
  let many := min 40 (ns.length - 3)
  obtain ⟨rows, hr, hrl, hrows⟩ := rows_is (ns := ns) h h3 hl (many := many) (Nat.min_le_left _ _)
  have hr40 : rows.length ≤ 40 := by rw [hrl]; exact Nat.min_le_left _ _
  have hstates : m_law_states [spD3 ss cans wk cl] = some (.reto (statesF ss wk)) := states_is (fun s hs => ⟨(h.g s hs).1, (h.g s hs).2.1⟩) h.n8 h.w.2 h.z h.z2
  let sp := spD3 ss cans wk cl
  let g := gdD (ss.map S.p) cans wk cl ks
  have r0 : lw0 (startE 10 [.scr ns]) = some (.nx [.fz (.scr ns), .fz sp, .un, .un, .un, .un, .un, .un, .un, .un]) := set_ev (i := 1) (call_ev (ds := [.scr ns, Dn 0]) rfl ((def_all rfl).trans (call_ret hsp)))
  have r1 : lw1 [.fz (.scr ns), .fz sp, .un, .un, .un, .un, .un, .un, .un, .un] = some (.nx [.fz (.scr ns), .fz sp, .fz g, .un, .un, .un, .un, .un, .un, .un]) := set_ev (i := 2) (call_ev (ds := [sp]) rfl ((def_all rfl).trans (call_ret (garden_isk h hk))))
  have r2 : lw2 [.fz (.scr ns), .fz sp, .fz g, .un, .un, .un, .un, .un, .un, .un] = some (.nx [.fz (.scr ns), .fz sp, .fz g, .fz (rwD rows), .un, .un, .un, .un, .un, .un]) := by
    have hm : eCall dMin2 (aCons (eC (.int 40)) (aCons (eCall dMax2 (aCons (eC (.int 0)) (aCons (eOp dSub (eCall dLen (aCons (eVarB 0) aNil)) (eC (.int 3))) aNil))) aNil)) [.fz (.scr ns), .fz sp, .fz g, .un, .un, .un, .un, .un, .un, .un] = some (.ok (Dn many)) := by
      have e1 : eCall dMax2 (aCons (eC (.int 0)) (aCons (eOp dSub (eCall dLen (aCons (eVarB 0) aNil)) (eC (.int 3))) aNil)) [.fz (.scr ns), .fz sp, .fz g, .un, .un, .un, .un, .un, .un, .un] = some (.ok (Dn (ns.length - 3))) := by
        refine call_ev (ds := [.int 0, .int ((ns.length : Int) - 3)]) rfl ?_
        show some (Except.ok (D.int (if (ns.length : Int) - 3 > 0 then (ns.length : Int) - 3 else 0))) = some (Except.ok (D.int ((ns.length - 3 : Nat) : Int)))
        congr 3
        split <;> omega
      refine call_ev (ds := [.int 40, Dn (ns.length - 3)]) (a_cons rfl (a_cons e1 rfl)) ?_
      show some (Except.ok (D.int (if ((ns.length - 3 : Nat) : Int) < 40 then ((ns.length - 3 : Nat) : Int) else 40))) = some (Except.ok (D.int ((min 40 (ns.length - 3) : Nat) : Int)))
      congr 3
      split <;> omega
    exact set_ev (i := 3) (call_ev (ds := [sp, .scr ns, Dn 3, Dn many, .bl true]) (a_cons rfl (a_cons rfl (a_cons rfl (a_cons hm (a_cons rfl rfl))))) ((def_all rfl).trans (call_reto hrows)))
  have r3 : lw3 [.fz (.scr ns), .fz sp, .fz g, .fz (rwD rows), .un, .un, .un, .un, .un, .un] = some (.nx [.fz (.scr ns), .fz sp, .fz g, .fz (rwD rows), .fz (.lst (statesF ss wk)), .un, .un, .un, .un, .un]) := set_ev (i := 4) (call_ev (ds := [sp]) rfl ((def_all rfl).trans (call_reto hstates)))
  have hL : 0 < (statesF ss wk).length := (List.getElem?_eq_some_iff.mp (states_head (ss := ss) h.w.1 h.g1)).1
  have m0 := Int.emod_nonneg (ns.getD 3 0) (show ((statesF ss wk).length : Int) ≠ 0 by omega)
  have m1 := Int.emod_lt_of_pos (ns.getD 3 0) (show (0 : Int) < (statesF ss wk).length by omega)
  let k := (ns.getD 3 0 % ((statesF ss wk).length : Int)).toNat
  have hkl : k < (statesF ss wk).length := by show (ns.getD 3 0 % ((statesF ss wk).length : Int)).toNat < _; omega
  obtain ⟨dy, is, est, hd, hi⟩ := states_mem (List.getElem_mem hkl)
  have hst : (statesF ss wk)[k]? = some (stD (Dn dy) is) := by rw [List.getElem?_eq_getElem hkl, est]
  have r4 : lw4 [.fz (.scr ns), .fz sp, .fz g, .fz (rwD rows), .fz (.lst (statesF ss wk)), .un, .un, .un, .un, .un] = some (.nx [.fz (.scr ns), .fz sp, .fz g, .fz (rwD rows), .fz (.lst (statesF ss wk)), .fz (stD (Dn dy) is), .un, .un, .un, .un]) := by
    refine set_ev (i := 5) (op_ev (d := .lst (statesF ss wk)) (e := Dn k) rfl (op_ev (d := .int (ns.getD 3 0)) (e := .int (statesF ss wk).length) (cellN (k := 3) rfl rfl) rfl ?_) (ix_lst hst))
    rw [mod_ev (by omega)]
    show some (Except.ok (D.int _)) = some (Except.ok (D.int ((((ns.getD 3 0) % ((statesF ss wk).length : Int)).toNat : Nat) : Int)))
    rw [Int.toNat_of_nonneg m0]
  let first := ns.getD 4 0 % 1000 * (ns.getD 4 0 / 1000 % 2)
  have q0 := Int.emod_nonneg (ns.getD 4 0) (show (1000 : Int) ≠ 0 by decide)
  have q1 := Int.emod_lt_of_pos (ns.getD 4 0) (show (0 : Int) < 1000 by decide)
  have q2 := Int.emod_nonneg (ns.getD 4 0 / 1000) (show (2 : Int) ≠ 0 by decide)
  have q3 := Int.emod_lt_of_pos (ns.getD 4 0 / 1000) (show (0 : Int) < 2 by decide)
  have hf : 0 ≤ first ∧ first < 1000 := by
    show 0 ≤ ns.getD 4 0 % 1000 * (ns.getD 4 0 / 1000 % 2) ∧ ns.getD 4 0 % 1000 * (ns.getD 4 0 / 1000 % 2) < 1000
    rcases (show ns.getD 4 0 / 1000 % 2 = 0 ∨ ns.getD 4 0 / 1000 % 2 = 1 by omega) with e | e <;> rw [e] <;> omega
  have r5 : lw5 [.fz (.scr ns), .fz sp, .fz g, .fz (rwD rows), .fz (.lst (statesF ss wk)), .fz (stD (Dn dy) is), .un, .un, .un, .un] = some (.nx (roM ns sp g rows (statesF ss wk) (stD (Dn dy) is) first .un .un)) :=
    set_ev (i := 6) (op_ev (d := .int (ns.getD 4 0 % 1000)) (e := .int (ns.getD 4 0 / 1000 % 2)) (modE (i := ns.getD 4 0) (cellN (k := 4) rfl rfl) (by decide)) (modE (i := ns.getD 4 0 / 1000) (divE (i := ns.getD 4 0) (cellN (k := 4) rfl rfl) (by decide)) (by decide)) (mul_ev (by omega)))
  obtain ⟨f7, hgo⟩ := many_go (ns := ns) h hk hl hr hr40 hd hi hf (e8 := .un) [rows.length, rows.length / 2, 1, 0] .un
  have r6 : lw6 (roM ns sp g rows (statesF ss wk) (stD (Dn dy) is) first .un .un) = some (.nx (roM ns sp g rows (statesF ss wk) (stD (Dn dy) is) first f7 .un)) := by
    have hlen : eCall dLen (aCons (eVarB 3) aNil) (roM ns sp g rows (statesF ss wk) (stD (Dn dy) is) first .un .un) = some (.ok (Dn rows.length)) := by
      refine call_ev (ds := [rwD rows]) rfl ?_
      show some (Except.ok (D.int ((rows.map D.lst).length : Int))) = _
      rw [List.length_map]
    refine for_ev (ds := [rows.length, rows.length / 2, 1, 0].map Dn) (iof_ev (lst_ev (n := 4) (a_cons hlen (a_cons (op_ev (d := Dn rows.length) (e := .int 2) hlen rfl ?_) (a_cons rfl (a_cons rfl rfl)))) (Nat.le_refl 4))) hgo
    rw [div_ev (by decide)]
    rfl
  have r7 : lw7 (roM ns sp g rows (statesF ss wk) (stD (Dn dy) is) first f7 .un) = some (.nx (roM ns sp g rows (statesF ss wk) (stD (Dn dy) is) first f7 (.fz (.lst (two.map S.d))))) := rfl
  have hf7 : noTk [f7, .fz (.lst (two.map S.d))] = true := by
    have key : ∀ (ms : List Nat) (e7 f7 : Ent), noTk [e7] = true → forD (gN 7) bMany (ms.map Dn) (roM ns sp g rows (statesF ss wk) (stD (Dn dy) is) first e7 .un) = some (.nx (roM ns sp g rows (statesF ss wk) (stD (Dn dy) is) first f7 .un)) → noTk [f7] = true := by
      intro ms
      induction ms with
      | nil =>
        intro e7 f7 he hq
        have : roM ns sp g rows (statesF ss wk) (stD (Dn dy) is) first e7 .un = roM ns sp g rows (statesF ss wk) (stD (Dn dy) is) first f7 .un := by
          have := Option.some.inj hq
          injection this
        have e : e7 = f7 := by simpa [roM] using this
        rw [← e]; exact he
      | cons m ms ih =>
        intro e7 f7 he hq
        rw [List.map_cons, for_cons (ρ1 := roM ns sp g rows (statesF ss wk) (stD (Dn dy) is) first (.fz (Dn m)) .un) rfl (many_step h hk hl hr hr40 hd hi hf)] at hq
        exact ih (.fz (Dn m)) f7 rfl hq
    have := key _ _ _ rfl hgo
    unfold noTk at this ⊢
    rw [List.all_cons] at this ⊢
    simp only [List.all_nil, Bool.and_true] at this
    rw [this]; rfl
  rw [lw_row]
  exact run_ret ((seq_nx r0).trans ((seq_nx r1).trans ((seq_nx r2).trans ((seq_nx r3).trans ((seq_nx r4).trans ((seq_nx r5).trans ((seq_nx r6).trans ((seq_nx r7).trans ((seq_nx lw8_is).trans ((seq_nx lw9_is).trans (seq_rt (lw10_is (st := sp) hf7))))))))))))
end K06
namespace K06
open PySem PySem.Spec PyProof.Rows L2 Tw
def top (i : Nat) : Stmt := PySem.Challenge.pw_thirstwise_k06_plans_followed.main.body.getD i (.Pass ⟨0, 0, 0, 0⟩)
abbrev s_law_cell_at : Stmt := top 32
abbrev s_is_name : Stmt := top 23
abbrev s_is_whole : Stmt := top 21
abbrev s_within : Stmt := top 22
abbrev s_Pot_init : Stmt := inClass (top 24) 0
abbrev s_Cactus_init : Stmt := inClass (top 25) 0
abbrev s_Garden_size : Stmt := inClass (top 30) 1
abbrev s_Garden_init : Stmt := inClass (top 30) 0
abbrev s_law_garden : Stmt := top 35
abbrev s_law_sorts : Stmt := top 42
abbrev s_law_refusal : Stmt := top 43
abbrev s_law_told : Stmt := top 41
abbrev s_law_behind : Stmt := top 36
abbrev s_law_walked : Stmt := top 40
abbrev s_BadDay_init : Stmt := inClass (top 8) 0
abbrev s_Garden_number : Stmt := inClass (top 30) 2
abbrev s_Cactus_may : Stmt := inClass (top 25) 1
abbrev s_Pot_may : Stmt := inClass (top 24) 1
abbrev s_bits_of : Stmt := top 10
abbrev s_allowed : Stmt := top 11
abbrev s_behind : Stmt := top 12
abbrev s_Garden_place : Stmt := inClass (top 30) 4
abbrev s_chosen_by : Stmt := top 13
abbrev s_dry_pot : Stmt := top 15
abbrev s_followed : Stmt := top 16
abbrev s_Garden_fresh : Stmt := inClass (top 30) 5
abbrev s_kept : Stmt := top 17
abbrev s_law_right : Stmt := top 45
abbrev s_law_draw : Stmt := top 33
abbrev s_law_steps : Stmt := top 37
abbrev s_law_rows : Stmt := top 44
abbrev s_law_spec : Stmt := top 34
abbrev s_law_states : Stmt := top 39
abbrev s_law : Stmt := top 46
structure Xa where
  a_BadDay : Addr
  a_BadPot : Addr
  a_BadRow : Addr
  a_GardenError : Addr
  a_NoPot : Addr
  a_NoState : Addr
  a_TooMany : Addr
structure Txt (K : PySem.W.Frag) (mg : Str → Option Value) (A : Ad) (Z : Xa) : Prop where
  b_ValueError : mg "ValueError" = none
  b_all : mg "all" = none
  b_bool : mg "bool" = none
  b_divmod : mg "divmod" = none
  b_int : mg "int" = none
  b_isinstance : mg "isinstance" = none
  b_len : mg "len" = none
  b_list : mg "list" = none
  b_max : mg "max" = none
  b_min : mg "min" = none
  b_range : mg "range" = none
  b_str : mg "str" = none
  b_tuple : mg "tuple" = none
  g_LETTERS : ∃ u, mg "LETTERS" = some u ∧ RelV (V.str "abcdefghijklmnopqrstuvwxyz") u
  g_LONGEST : ∃ u, mg "LONGEST" = some u ∧ RelV (V.int 60) u
  g_LONGEST_WEEK : ∃ u, mg "LONGEST_WEEK" = some u ∧ RelV (V.int 14) u
  g_MOST_POTS : ∃ u, mg "MOST_POTS" = some u ∧ RelV (V.int 8) u
  g_MOST_STATES : ∃ u, mg "MOST_STATES" = some u ∧ RelV (V.int 20000) u
  cf : ClsF K A
  is_Pot : IsTab K A (.ref (A.cl .pot)) isPot
  g_Pot : mg "Pot" = some (.ref (A.cl .pot))
  gx_BadDay : mg "BadDay" = some (.ref Z.a_BadDay)
  gx_BadPot : mg "BadPot" = some (.ref Z.a_BadPot)
  gx_BadRow : mg "BadRow" = some (.ref Z.a_BadRow)
  gx_GardenError : mg "GardenError" = some (.ref Z.a_GardenError)
  gx_NoPot : mg "NoPot" = some (.ref Z.a_NoPot)
  gx_NoState : mg "NoState" = some (.ref Z.a_NoState)
  gx_TooMany : mg "TooMany" = some (.ref Z.a_TooMany)
  isE_BadDay : IsTabX K A (.ref Z.a_BadDay) isE_BadDay
  isE_BadPot : IsTabX K A (.ref Z.a_BadPot) isE_BadPot
  isE_BadRow : IsTabX K A (.ref Z.a_BadRow) isE_BadRow
  isE_NoPot : IsTabX K A (.ref Z.a_NoPot) isE_NoPot
  isE_NoState : IsTabX K A (.ref Z.a_NoState) isE_NoState
  isE_TooMany : IsTabX K A (.ref Z.a_TooMany) isE_TooMany
  isE_ValueError : IsTabX K A (.type "ValueError") isE_ValueError
  ct_GardenError : ∀ y b, ct_GardenError y = some b → PySem.W.exmOne K (.ref (A.xc y)) (.ref Z.a_GardenError) = some b
  xd_BadDay : XfD K A .badDay "day"
  x_BadPot : Xcl K mg A "BadPot" .badPot
  x_NoPot : Xcl K mg A "NoPot" .noPot
  x_NoState : Xcl K mg A "NoState" .noState
  x_TooMany : Xcl K mg A "TooMany" .tooMany
section
variable {P : Program} {w : World} {K : PySem.W.Frag} {mg : Str → Option Value} {base : Heap} {A : Ad} {Z : Xa}
theorem sc_law_cell_at : FnScope ["_law_script", "_law_k"] ["_law_script", "_law_k"] (defScope s_law_cell_at) := ⟨rfl, rfl, rfl, by decide +kernel, rfl, by decide +kernel, by decide +kernel⟩
theorem ok_law_cell_at {f : Addr} {fd : FuncData} (F : Fun K "_law_cell_at" "_law_cell_at" s_law_cell_at f fd) (T : Txt K mg A Z)  : FnOk P w K mg base (L2N.CX P w) 1 f fd ["_law_script", "_law_k"] (spD K A 2 m_law_cell_at) :=
  fnD F sc_law_cell_at fun cdv A' outer s H F0 E hr => by
    have S := sc_law_cell_at
    have tk : L2N.Takes (cxOf (L2N.CX P w) P w K mg base ["_law_script", "_law_k"] "_law_cell_at" (defScope s_law_cell_at) f cdv A' outer s H E) (fxOf A H F0 E).W := L2N.takes_of rfl rfl rfl rfl
    have hp : PassesOwn (model P w) (A'.deeper (envOfC "_law_cell_at" (defScope s_law_cell_at) s.heap.objs.size f cdv)) (envOfC "_law_cell_at" (defScope s_law_cell_at) s.heap.objs.size f cdv) (cxOf (L2N.CX P w) P w K mg base ["_law_script", "_law_k"] "_law_cell_at" (defScope s_law_cell_at) f cdv A' outer s H E).xe := passes_of rfl
    have hu := hr.units
    have hu5 := hu65 hr
    exact (pks_cons (pks_if (pt_lt (pk_varB (pv 1)) (pk_bw (pk_len T.b_len rfl (pka_cons (pk_varB (pv 0)) pka_nil))))
      (pks_one (pks_ret (pk_ix (fun _ _ => rfl) (pk_varB (pv 0)) (pk_varB (pv 1)))))
      pks_nil)
    (pks_one (pks_ret pk_int)))
theorem sc_is_name : FnScope ["name"] ["name"] (defScope s_is_name) := ⟨rfl, rfl, rfl, by decide +kernel, rfl, by decide +kernel, by decide +kernel⟩
theorem ok_is_name {f : Addr} {fd : FuncData} (F : Fun K "is_name" "is_name" s_is_name f fd) (T : Txt K mg A Z)  : FnOk P w K mg base (L2N.CX P w) 1 f fd ["name"] (spD K A 1 m_is_name) :=
  fnD F sc_is_name fun cdv A' outer s H F0 E hr => by
    have S := sc_is_name
    have tk : L2N.Takes (cxOf (L2N.CX P w) P w K mg base ["name"] "is_name" (defScope s_is_name) f cdv A' outer s H E) (fxOf A H F0 E).W := L2N.takes_of rfl rfl rfl rfl
    have hp : PassesOwn (model P w) (A'.deeper (envOfC "is_name" (defScope s_is_name) s.heap.objs.size f cdv)) (envOfC "is_name" (defScope s_is_name) s.heap.objs.size f cdv) (cxOf (L2N.CX P w) P w K mg base ["name"] "is_name" (defScope s_is_name) f cdv A' outer s H E).xe := passes_of rfl
    have hu := hr.units
    have hu5 := hu65 hr
    exact (pks_one (pks_ret (pk_and2 (pk_bw (pk_is T.cf is_str (.ty "str") T.b_isinstance rfl (pe_bltn rfl T.b_str (by decide +kernel) rfl) (pk_varB (pv 0)))) (pk_and2 (pk_bw (pk_le_le (pk_bw pk_int) (pk_bw (pk_len T.b_len rfl (pka_cons (pk_varB (pv 0)) pka_nil))) (pk_bw pk_int))) (pk_one (pk_eq hu (pk_bw (pk_strip (pk_varB (pv 0)) (pka_cons (pk_bw (pk_gl T.g_LETTERS (fun _ => .str _))) pka_nil))) (pk_bw pk_str)))))))
theorem sc_is_whole : FnScope ["number"] ["number"] (defScope s_is_whole) := ⟨rfl, rfl, rfl, by decide +kernel, rfl, by decide +kernel, by decide +kernel⟩
theorem ok_is_whole {f : Addr} {fd : FuncData} (F : Fun K "is_whole" "is_whole" s_is_whole f fd) (T : Txt K mg A Z)  : FnOk P w K mg base (L2N.CX P w) 1 f fd ["number"] (spD K A 1 m_is_whole) :=
  fnD F sc_is_whole fun cdv A' outer s H F0 E hr => by
    have S := sc_is_whole
    have tk : L2N.Takes (cxOf (L2N.CX P w) P w K mg base ["number"] "is_whole" (defScope s_is_whole) f cdv A' outer s H E) (fxOf A H F0 E).W := L2N.takes_of rfl rfl rfl rfl
    have hp : PassesOwn (model P w) (A'.deeper (envOfC "is_whole" (defScope s_is_whole) s.heap.objs.size f cdv)) (envOfC "is_whole" (defScope s_is_whole) s.heap.objs.size f cdv) (cxOf (L2N.CX P w) P w K mg base ["number"] "is_whole" (defScope s_is_whole) f cdv A' outer s H E).xe := passes_of rfl
    have hu := hr.units
    have hu5 := hu65 hr
    exact (pks_one (pks_ret (pk_and2 (pk_bw (pk_is T.cf is_int (.ty "int") T.b_isinstance rfl (pe_bltn rfl T.b_int (by decide +kernel) rfl) (pk_varB (pv 0)))) (pk_one (pk_not (pk_bw (pk_is T.cf is_bool (.ty "bool") T.b_isinstance rfl (pe_bltn rfl T.b_bool (by decide +kernel) rfl) (pk_varB (pv 0)))))))))
theorem sc_within : FnScope ["number", "low", "high"] ["number", "low", "high"] (defScope s_within) := ⟨rfl, rfl, rfl, by decide +kernel, rfl, by decide +kernel, by decide +kernel⟩
theorem ok_within {f : Addr} {fd : FuncData} (F : Fun K "within" "within" s_within f fd) (T : Txt K mg A Z) (c_is_whole : Cal P w K mg base A 1 "is_whole" 1 m_is_whole []) : FnOk P w K mg base (L2N.CX P w) 2 f fd ["number", "low", "high"] (spD K A 3 m_within) :=
  fnD F sc_within fun cdv A' outer s H F0 E hr => by
    have S := sc_within
    have tk : L2N.Takes (cxOf (L2N.CX P w) P w K mg base ["number", "low", "high"] "within" (defScope s_within) f cdv A' outer s H E) (fxOf A H F0 E).W := L2N.takes_of rfl rfl rfl rfl
    have hp : PassesOwn (model P w) (A'.deeper (envOfC "within" (defScope s_within) s.heap.objs.size f cdv)) (envOfC "within" (defScope s_within) s.heap.objs.size f cdv) (cxOf (L2N.CX P w) P w K mg base ["number", "low", "high"] "within" (defScope s_within) f cdv A' outer s H E).xe := passes_of rfl
    have hu := hr.units
    have hu5 := hu65 hr
    exact (pks_one (pks_ret (pk_and2 (pk_bw (pk_f c_is_whole tk (hr.mono (by decide)) (pka_cons (pk_var (pv 0)) pka_nil))) (pk_one (pk_le_le (pk_varB (pv 1)) (pk_varB (pv 0)) (pk_varB (pv 2)))))))
theorem sc_Pot_init : FnScope ["self", "name", "gap"] ["self", "name", "gap"] (defScope s_Pot_init) := ⟨rfl, rfl, rfl, by decide +kernel, rfl, by decide +kernel, by decide +kernel⟩
theorem ok_Pot_init {f C : Addr} {fd : FuncData} (F : Fun K "__init__" "Pot.__init__" s_Pot_init f fd) (T : Txt K mg A Z) (clC : Cls K C) (noC : ∀ n, n ∈ Cl.names .pot → NoAttr K C n) (c_is_name : Cal P w K mg base A 1 "is_name" 1 m_is_name []) (c_within : Cal P w K mg base A 2 "within" 3 m_within []) : FnOk P w K mg base (L2N.CX P w) 3 f fd ["self", "name", "gap"] (spI K A C (Cl.names .pot) 2 mi_Pot) :=
  fnI F sc_Pot_init rfl fun cdv A' outer s H E y eA eC h0 eW hr => by
    subst eA eC
    have S := sc_Pot_init
    have tk : L2N.Takes (cxOf (L2N.CX P w) P w K mg base ["self", "name", "gap"] "Pot.__init__" (defScope s_Pot_init) f cdv A' outer s H E) y.W := by rw [eW]; exact L2N.takes_of rfl rfl rfl rfl
    have hp : PassesOwn (model P w) (A'.deeper (envOfC "Pot.__init__" (defScope s_Pot_init) s.heap.objs.size f cdv)) (envOfC "Pot.__init__" (defScope s_Pot_init) s.heap.objs.size f cdv) (cxOf (L2N.CX P w) P w K mg base ["self", "name", "gap"] "Pot.__init__" (defScope s_Pot_init) f cdv A' outer s H E).xe := passes_of rfl
    have hu := hr.units
    have hu5 := hu65 hr
    exact (pis_cons (pis_S h0 fun B' hB => (pks_if (PW.pt (pkw_or (pkt_not (pt_b (pk_bw (pk_f c_is_name tk (hr.mono (by decide)) (pka_cons (pk_var (pv 1)) pka_nil))))) (pkw_or1 (pkt_not (pt_b (pk_bw (pk_f c_within tk (hr.mono (by decide)) (pka_cons (pk_var (pv 2)) (pka_cons pk_int (pka_cons (pk_gl T.g_LONGEST (fun _ => .int _)) pka_nil))))))))))
        (pks_one (pks_raise (y := .badPot) rfl tk T.x_BadPot (fun _ => rfl)))
        pks_nil))
    (pis_cons (pis_sto h0 (fun tv h => ps_fld (pv 0) h rfl) (fun B' hB => (pk_var (pv 1))) clC (noC "name" (by decide)))
    (pis_cons (pis_sto h0 (fun tv h => ps_fld (pv 0) h rfl) (fun B' hB => (pk_var (pv 2))) clC (noC "gap" (by decide)))
    pis_nil)))
theorem sc_Cactus_init : FnScope ["self", "name", "gap", "rest"] ["self", "name", "gap", "rest"] (defScope s_Cactus_init) := ⟨rfl, rfl, rfl, by decide +kernel, rfl, by decide +kernel, by decide +kernel⟩
theorem ok_Cactus_init {f C : Addr} {fd : FuncData} (F : Fun K "__init__" "Cactus.__init__" s_Cactus_init f fd) (T : Txt K mg A Z) (clC : Cls K C) (noC : ∀ n, n ∈ Cl.names .cactus → NoAttr K C n) (su_Pot : Sup P w K mg base A 3 "Pot" C .pot 2 mi_Pot) (c_within : Cal P w K mg base A 2 "within" 3 m_within []) : FnOk P w K mg base (L2N.CX P w) 5 f fd ["self", "name", "gap", "rest"] (spI K A C (Cl.names .cactus) 3 mi_Cactus) :=
  fnI F sc_Cactus_init rfl fun cdv A' outer s H E y eA eC h0 eW hr => by
    subst eA eC
    have S := sc_Cactus_init
    have tk : L2N.Takes (cxOf (L2N.CX P w) P w K mg base ["self", "name", "gap", "rest"] "Cactus.__init__" (defScope s_Cactus_init) f cdv A' outer s H E) y.W := by rw [eW]; exact L2N.takes_of rfl rfl rfl rfl
    have hp : PassesOwn (model P w) (A'.deeper (envOfC "Cactus.__init__" (defScope s_Cactus_init) s.heap.objs.size f cdv)) (envOfC "Cactus.__init__" (defScope s_Cactus_init) s.heap.objs.size f cdv) (cxOf (L2N.CX P w) P w K mg base ["self", "name", "gap", "rest"] "Cactus.__init__" (defScope s_Cactus_init) f cdv A' outer s H E).xe := passes_of rfl
    have hu := hr.units
    have hu5 := hu65 hr
    exact (pis_cons (pis_sup h0 su_Pot tk (hr.mono (by decide)) (pv 0) (fun B' hB => (pka_cons (pk_var (pv 1)) (pka_cons (pk_var (pv 2)) pka_nil))))
    (pis_cons (pis_S h0 fun B' hB => (pks_if (pkt_not (pt_b (pk_bw (pk_f c_within tk (hr.mono (by decide)) (pka_cons (pk_var (pv 3)) (pka_cons pk_int (pka_cons (pk_sub (pk_varB (pv 2)) (pk_bw pk_int)) pka_nil)))))))
        (pks_one (pks_raise (y := .badPot) rfl tk T.x_BadPot (fun _ => rfl)))
        pks_nil))
    (pis_cons (pis_sto h0 (fun tv h => ps_fld (pv 0) h rfl) (fun B' hB => (pk_var (pv 3))) clC (noC "rest" (by decide)))
    pis_nil)))
theorem sc_Garden_size : FnScope ["self", "found", "pot"] ["self"] (defScope s_Garden_size) := ⟨rfl, rfl, rfl, by decide +kernel, rfl, by decide +kernel, by decide +kernel⟩
theorem ok_Garden_size {f : Addr} {fd : FuncData} (F : Fun K "size" "Garden.size" s_Garden_size f fd) (T : Txt K mg A Z)  : FnOk P w K mg base (L2N.CX P w) 1 f fd ["self"] (spD K A 1 m_Garden_size) :=
  fnD F sc_Garden_size fun cdv A' outer s H F0 E hr => by
    have S := sc_Garden_size
    have tk : L2N.Takes (cxOf (L2N.CX P w) P w K mg base ["self", "found", "pot"] "Garden.size" (defScope s_Garden_size) f cdv A' outer s H E) (fxOf A H F0 E).W := L2N.takes_of rfl rfl rfl rfl
    have hp : PassesOwn (model P w) (A'.deeper (envOfC "Garden.size" (defScope s_Garden_size) s.heap.objs.size f cdv)) (envOfC "Garden.size" (defScope s_Garden_size) s.heap.objs.size f cdv) (cxOf (L2N.CX P w) P w K mg base ["self", "found", "pot"] "Garden.size" (defScope s_Garden_size) f cdv A' outer s H E).xe := passes_of rfl
    have hu := hr.units
    have hu5 := hu65 hr
    exact (pks_cons (pks_set (fun te h => ps_set (i := 1) S.nd rfl (Or.inl rfl) h) (pk_fld T.cf (pk_varB (pv 0))))
    (pks_cons (pks_for hp rfl (pid_list (pk_fld T.cf (pk_varB (pv 0)))) (pgd_name (pg_name (i := 2) S.nd rfl (Or.inl rfl)))
      (pks_one (pks_aug op2_mulI nox_I (fun te h => ps_aug (i := 1) S.nd rfl (Or.inl rfl) h iop_mul) (pk_bw (pk_fld T.cf (pk_varB (pv 2)))))))
    (pks_one (pks_ret (pk_var (pv 1))))))
theorem sc_Garden_init : FnScope ["self", "pots", "cans", "week", "closed", "names", "pot"] ["self", "pots", "cans", "week", "closed"] (defScope s_Garden_init) := ⟨rfl, rfl, rfl, by decide +kernel, rfl, by decide +kernel, by decide +kernel⟩
theorem ok_Garden_init {f C : Addr} {fd : FuncData} (F : FunD K "__init__" "Garden.__init__" (defArgs s_Garden_init) (defBody s_Garden_init) (defScope s_Garden_init) [V.int 1, V.int 1, V.int 0] [] f fd) (T : Txt K mg A Z) (hC : C = A.cl .garden) (hc : A.has .garden = true) (clC : Cls K C) (noC : ∀ n, n ∈ Cl.names .garden → NoAttr K C n) (c_is_whole : Cal P w K mg base A 1 "is_whole" 1 m_is_whole []) (c_within : Cal P w K mg base A 2 "within" 3 m_within []) (mt_size : ∀ c m, tb_size c = some m → MtD P w K mg base A 1 c "size" 1 m) : FnOk P w K mg base (L2N.CX P w) 3 f fd ["self", "pots", "cans", "week", "closed"] (spI K A C (Cl.names .garden) 4 mi_Garden) :=
  fnID F sc_Garden_init rfl fun cdv A' outer s H E y eA eC h0 eW hr => by
    subst eA eC
    have S := sc_Garden_init
    have tk : L2N.Takes (cxOf (L2N.CX P w) P w K mg base ["self", "pots", "cans", "week", "closed", "names", "pot"] "Garden.__init__" (defScope s_Garden_init) f cdv A' outer s H E) y.W := by rw [eW]; exact L2N.takes_of rfl rfl rfl rfl
    have hp : PassesOwn (model P w) (A'.deeper (envOfC "Garden.__init__" (defScope s_Garden_init) s.heap.objs.size f cdv)) (envOfC "Garden.__init__" (defScope s_Garden_init) s.heap.objs.size f cdv) (cxOf (L2N.CX P w) P w K mg base ["self", "pots", "cans", "week", "closed", "names", "pot"] "Garden.__init__" (defScope s_Garden_init) f cdv A' outer s H E).xe := passes_of rfl
    have hu := hr.units
    have hu5 := hu65 hr
    exact (pis_cons (pis_S h0 fun B' hB => (pks_if (PW.pt (pkw_or (pkt_not (pt_b (pk_bw (pk_is T.cf is_list (.ty "list") T.b_isinstance rfl (pe_bltn rfl T.b_list (by decide +kernel) rfl) (pk_varB (pv 1)))))) (pkw_or1 (pkt_not (pt_b (pk_bw (pk_all rfl T.b_all rfl (pka_cons (pk_bw (pk_lc (k := .fz) (by decide) (by decide) (pe_lc (own := [("pot", 6)]) rfl S.nd (pid_list (pk_var (pv 1))) (blkOk_by (own := [("pot", 6)]) (N := ["self", "pots", "cans", "week", "closed", "names", "pot"]) (sc := defScope s_Garden_init) (by decide +kernel)) (fun _ _ _ _ _ => (pgd_name (pg_name (i := 6) S.nd rfl (Or.inl rfl)))) (fun _ _ _ _ _ => ptsd_nil) (fun _ _ _ _ _ => (pk_is T.cf T.is_Pot (.own _) T.b_isinstance rfl (pe_glob rfl T.g_Pot rfl) (pk_varB (pv 6))))))) pka_nil))))))))
        (pks_one (pks_raise (y := .badPot) rfl tk T.x_BadPot (fun _ => rfl)))
        pks_nil))
    (pis_cons (pis_S h0 fun B' hB => (pks_if (PW.pt (pkw_or (pkt_not (pt_le_le (pk_bw pk_int) (pk_bw (pk_len T.b_len rfl (pka_cons (pk_varB (pv 1)) pka_nil))) (pk_bw (pk_gl T.g_MOST_POTS (fun _ => .int _))))) (pkw_or (pkt_not (pt_b (pk_bw (pk_f c_within tk (hr.mono (by decide)) (pka_cons (pk_var (pv 2)) (pka_cons pk_int (pka_cons (pk_gl T.g_MOST_POTS (fun _ => .int _)) pka_nil))))))) (pkw_or1 (pkt_not (pt_b (pk_bw (pk_f c_within tk (hr.mono (by decide)) (pka_cons (pk_var (pv 3)) (pka_cons pk_int (pka_cons (pk_gl T.g_LONGEST_WEEK (fun _ => .int _)) pka_nil)))))))))))
        (pks_one (pks_raise (y := .tooMany) rfl tk T.x_TooMany (fun _ => rfl)))
        pks_nil))
    (pis_cons (pis_S h0 fun B' hB => (pks_if (PW.pt (pkw_or (pkt_not (pt_b (pk_bw (pk_f c_is_whole tk (hr.mono (by decide)) (pka_cons (pk_var (pv 4)) pka_nil))))) (pkw_or (pt_lt (pk_varB (pv 4)) (pk_bw pk_int)) (pkw_or1 (pt_ne hu (pk_bw (pk_shr (pk_varB (pv 4)) (pk_varB (pv 3)))) (pk_bw pk_int))))))
        (pks_one (pks_raise (y := .tooMany) rfl tk T.x_TooMany (fun _ => rfl)))
        pks_nil))
    (pis_names (i := 5) (ip := 6) (a := .Dict [] [] default) h0 hp rfl (ps_set (i := 5) S.nd rfl (Or.inl rfl) pe_dnewK) (fun l ks hB => pid_list (pk_var (pv 1))) (pg_name (i := 6) S.nd rfl (Or.inl rfl)) (pis_nbody (i := 5) (ip := 6) (hu1 hr) (fun l ks => pk_fld T.cf (pk_varB (pv 6))) (pv 5) (fun l ks => pk_fld T.cf (pk_varB (pv 6))) (pv 5) (fun l ks => pks_one (pks_raise (y := .badPot) rfl tk T.x_BadPot (fun _ => rfl))) (pe_callB call_lenD rfl T.b_len PySem.boot_len (pa_cons (pv 5) pa_nil)) rfl rfl)
    (pis_cons (pis_sto h0 (fun tv h => ps_fld (pv 0) h rfl) (fun B' hB => (pk_list (k := .fz) T.b_list rfl (pka_cons (pk_varB (pv 1)) pka_nil))) clC (noC "pots" (by decide)))
    (pis_cons (pis_sto h0 (fun tv h => ps_fld (pv 0) h rfl) (fun B' hB => (pk_var (pv 2))) clC (noC "cans" (by decide)))
    (pis_cons (pis_sto h0 (fun tv h => ps_fld (pv 0) h rfl) (fun B' hB => (pk_var (pv 3))) clC (noC "week" (by decide)))
    (pis_cons (pis_sto h0 (fun tv h => ps_fld (pv 0) h rfl) (fun B' hB => (pk_var (pv 4))) clC (noC "closed" (by decide)))
    (pis_cons (pis_sto h0 (fun tv h => ps_fld (pv 0) h rfl) (fun B' hB => (pk_var (pv 5))) clC (noC "order" (by decide)))
    (pis_post (c := .garden) h0 hc hC fun B' F0' => (pks_one (pks_if (pt_gt (pk_bw (pk_meth0 (c0 := .garden) dc_call tk mt_size (hr.mono (by decide)) rfl (pk_var (pv 0)))) (pk_bw (pk_gl T.g_MOST_STATES (fun _ => .int _))))
      (pks_one (pks_raise (y := .tooMany) rfl tk T.x_TooMany (fun _ => rfl)))
      pks_nil))))))))))))
theorem sc_law_garden : FnScope ["_law_spec_here", "_law_pots", "_law_name", "_law_gap", "_law_rest"] ["_law_spec_here"] (defScope s_law_garden) := ⟨rfl, rfl, rfl, by decide +kernel, rfl, by decide +kernel, by decide +kernel⟩
theorem ok_law_garden {f : Addr} {fd : FuncData} (F : Fun K "_law_garden" "_law_garden" s_law_garden f fd) (T : Txt K mg A Z) (mk_Cactus : Mak P w K mg base A 6 "Cactus" 3 .cactus mi_Cactus []) (mk_Garden : Mak P w K mg base A 4 "Garden" 4 .garden mi_Garden []) (mk_Pot : Mak P w K mg base A 4 "Pot" 2 .pot mi_Pot []) : FnOk P w K mg base (L2N.CX P w) 7 f fd ["_law_spec_here"] (spD K A 1 m_law_garden) :=
  fnD F sc_law_garden fun cdv A' outer s H F0 E hr => by
    have S := sc_law_garden
    have tk : L2N.Takes (cxOf (L2N.CX P w) P w K mg base ["_law_spec_here", "_law_pots", "_law_name", "_law_gap", "_law_rest"] "_law_garden" (defScope s_law_garden) f cdv A' outer s H E) (fxOf A H F0 E).W := L2N.takes_of rfl rfl rfl rfl
    have hp : PassesOwn (model P w) (A'.deeper (envOfC "_law_garden" (defScope s_law_garden) s.heap.objs.size f cdv)) (envOfC "_law_garden" (defScope s_law_garden) s.heap.objs.size f cdv) (cxOf (L2N.CX P w) P w K mg base ["_law_spec_here", "_law_pots", "_law_name", "_law_gap", "_law_rest"] "_law_garden" (defScope s_law_garden) f cdv A' outer s H E).xe := passes_of rfl
    have hu := hr.units
    have hu5 := hu65 hr
    exact (pks_cons (pks_setO (fun te h => ps_set (i := 1) S.nd rfl (Or.inl rfl) h) (pk_lst (k := .ow) pka_nil))
    (pks_cons (pks_for hp rfl (pid_list (pk_ix (fun _ _ => rfl) (pk_varB (pv 0)) (pk_bw pk_int))) (pgd_tup rfl (pgsd_cons (pgd_name (pg_name (i := 2) S.nd rfl (Or.inl rfl))) (pgsd_cons (pgd_name (pg_name (i := 3) S.nd rfl (Or.inl rfl))) (pgsd_cons (pgd_name (pg_name (i := 4) S.nd rfl (Or.inl rfl))) pgsd_nil))))
      (pks_one (pks_if (pt_lt (pk_varB (pv 4)) (pk_bw pk_int))
        (pks_one (pks_app (fun te ta h ha => ps_expr (pe_bm PySem.F.plainAttrs_list PySem.F.slot_list_append PySem.F.type_list_append mt_append h ha)) (pv 1) (pk_mk mk_Pot tk (hr.mono (by decide)) (pka_cons (pk_var (pv 2)) (pka_cons (pk_var (pv 3)) pka_nil)))))
        (pks_one (pks_app (fun te ta h ha => ps_expr (pe_bm PySem.F.plainAttrs_list PySem.F.slot_list_append PySem.F.type_list_append mt_append h ha)) (pv 1) (pk_mk mk_Cactus tk (hr.mono (by decide)) (pka_cons (pk_var (pv 2)) (pka_cons (pk_var (pv 3)) (pka_cons (pk_var (pv 4)) pka_nil)))))))))
    (pks_one (pks_frz (i := 1) (pks_ret (pk_mk mk_Garden tk (hr.mono (by decide)) (pka_cons (pk_var (pv 1)) (pka_cons (pk_ix (fun _ _ => rfl) (pk_varB (pv 0)) (pk_bw pk_int)) (pka_cons (pk_ix (fun _ _ => rfl) (pk_varB (pv 0)) (pk_bw pk_int)) (pka_cons (pk_ix (fun _ _ => rfl) (pk_varB (pv 0)) (pk_bw pk_int)) pka_nil))))))))))
theorem sc_law_sorts : FnScope ["_law_error", "_law_found"] ["_law_error"] (defScope s_law_sorts) := ⟨rfl, rfl, rfl, by decide +kernel, rfl, by decide +kernel, by decide +kernel⟩
theorem ok_law_sorts {f : Addr} {fd : FuncData} (F : Fun K "_law_sorts" "_law_sorts" s_law_sorts f fd) (T : Txt K mg A Z)  : FnE P w K mg base A 1 f fd ["_law_error"] m_law_sorts :=
  fnE F sc_law_sorts rfl fun cdv R outer s H F0 E p y d hr xr hot => by
    have S := sc_law_sorts
    have tk : L2N.Takes (L2H.cxH (L2N.CX P w) P w K mg base ["_law_error", "_law_found"] "_law_sorts" (defScope s_law_sorts) f cdv R outer s H E p) (fxE A p.1 H F0 E).W := L2N.takes_of rfl rfl rfl rfl
    have hu := huH hr
    have hu5 := huH5 hr
    exact (pks_cons (pks_set (fun te h => ps_set (i := 1) S.nd rfl (Or.inl rfl) h) (pk_lst (k := .fz) (pka_cons (pk_isX T.isE_BadPot hot xr (fun _ => rfl) (.own _) T.b_isinstance rfl (pe_glob rfl T.gx_BadPot rfl) (pv 0)) (pka_cons (pk_isX T.isE_TooMany hot xr (fun _ => rfl) (.own _) T.b_isinstance rfl (pe_glob rfl T.gx_TooMany rfl) (pv 0)) (pka_cons (pk_isX T.isE_NoPot hot xr (fun _ => rfl) (.own _) T.b_isinstance rfl (pe_glob rfl T.gx_NoPot rfl) (pv 0)) pka_nil)))))
    (pks_one (pks_ret (pk_addU (pk_varB (pv 1)) (pk_bw (pk_lst (k := .fz) (pka_cons (pk_isX T.isE_BadDay hot xr (fun _ => rfl) (.own _) T.b_isinstance rfl (pe_glob rfl T.gx_BadDay rfl) (pv 0)) (pka_cons (pk_isX T.isE_BadRow hot xr (fun _ => rfl) (.own _) T.b_isinstance rfl (pe_glob rfl T.gx_BadRow rfl) (pv 0)) (pka_cons (pk_isX T.isE_NoState hot xr (fun _ => rfl) (.own _) T.b_isinstance rfl (pe_glob rfl T.gx_NoState rfl) (pv 0)) pka_nil)))))))))
theorem sc_law_refusal : FnScope ["_law_error"] ["_law_error"] (defScope s_law_refusal) := ⟨rfl, rfl, rfl, by decide +kernel, rfl, by decide +kernel, by decide +kernel⟩
theorem ok_law_refusal {f : Addr} {fd : FuncData} (F : Fun K "_law_refusal" "_law_refusal" s_law_refusal f fd) (T : Txt K mg A Z) (ce_law_sorts : CalE P w K mg base A 1 "_law_sorts" m_law_sorts) : FnE P w K mg base A 2 f fd ["_law_error"] m_law_refusal :=
  fnE F sc_law_refusal rfl fun cdv R outer s H F0 E p y d hr xr hot => by
    have S := sc_law_refusal
    have tk : L2N.Takes (L2H.cxH (L2N.CX P w) P w K mg base ["_law_error"] "_law_refusal" (defScope s_law_refusal) f cdv R outer s H E p) (fxE A p.1 H F0 E).W := L2N.takes_of rfl rfl rfl rfl
    have hu := huH hr
    have hu5 := huH5 hr
    exact (pks_cons (pks_if (PW.pt (pkw_or (pt_ne hu (pk_bw (pk_count (pk_bw (pk_callE ce_law_sorts hot (fun _ => rfl) xr tk (hr.mono (by decide)) (pv 0))) (pka_cons (pk_bw pk_bl) pka_nil))) (pk_bw pk_int)) (pkw_or1 (pkt_not (pt_b (pk_bw (pk_isX T.isE_ValueError hot xr (fun _ => rfl) (.ty "ValueError") T.b_isinstance rfl (pe_bltn rfl T.b_ValueError (by decide +kernel) rfl) (pv 0))))))))
      (pks_one (pks_ret pk_non))
      pks_nil)
    (pks_cons (pks_if (pt_b (pk_bw (pk_isX T.isE_BadDay hot xr (fun _ => rfl) (.own _) T.b_isinstance rfl (pe_glob rfl T.gx_BadDay rfl) (pv 0))))
      (pks_one (pks_ret (pk_tup (pka_cons pk_str (pka_cons (pk_day T.xd_BadDay hot xr (fun _ => rfl) (pv 0)) pka_nil)))))
      pks_nil)
    (pks_one (pks_ret (pk_if (pt_b (pk_bw (pk_isX T.isE_NoPot hot xr (fun _ => rfl) (.own _) T.b_isinstance rfl (pe_glob rfl T.gx_NoPot rfl) (pv 0)))) (pk_tup (pka_cons pk_str (pka_cons (pk_neg (pk_bw pk_int)) pka_nil))) pk_non)))))
theorem sc_law_told : FnScope ["_law_due"] ["_law_due"] (defScope s_law_told) := ⟨rfl, rfl, rfl, by decide +kernel, rfl, by decide +kernel, by decide +kernel⟩
theorem ok_law_told {f : Addr} {fd : FuncData} (F : Fun K "_law_told" "_law_told" s_law_told f fd) (T : Txt K mg A Z)  : FnOk P w K mg base (L2N.CX P w) 1 f fd ["_law_due"] (spD K A 1 m_law_told) :=
  fnD F sc_law_told fun cdv A' outer s H F0 E hr => by
    have S := sc_law_told
    have tk : L2N.Takes (cxOf (L2N.CX P w) P w K mg base ["_law_due"] "_law_told" (defScope s_law_told) f cdv A' outer s H E) (fxOf A H F0 E).W := L2N.takes_of rfl rfl rfl rfl
    have hp : PassesOwn (model P w) (A'.deeper (envOfC "_law_told" (defScope s_law_told) s.heap.objs.size f cdv)) (envOfC "_law_told" (defScope s_law_told) s.heap.objs.size f cdv) (cxOf (L2N.CX P w) P w K mg base ["_law_due"] "_law_told" (defScope s_law_told) f cdv A' outer s H E).xe := passes_of rfl
    have hu := hr.units
    have hu5 := hu65 hr
    exact (pks_cons (pks_if (pt_eq hu (pk_bw (pk_ix (fun _ _ => rfl) (pk_varB (pv 0)) (pk_bw pk_int))) (pk_bw pk_str))
      (pks_one (pks_ret (pk_tup (pka_cons pk_bl (pka_cons (pk_ix (fun _ _ => rfl) (pk_varB (pv 0)) (pk_bw pk_int)) pka_nil)))))
      pks_nil)
    (pks_one (pks_ret (pk_tup (pka_cons pk_bl (pka_cons (pk_ix (fun _ _ => rfl) (pk_varB (pv 0)) (pk_bw pk_int)) (pka_cons (pk_ix (fun _ _ => rfl) (pk_varB (pv 0)) (pk_bw pk_int)) pka_nil)))))))
theorem sc_law_behind : FnScope ["_law_spec_here", "_law_state", "_law_wet", "_law_pots", "_law_cans", "_law_week", "_law_closed", "_law_day", "_law_since", "_law_k", "_law_found", "_law_far"] ["_law_spec_here", "_law_state", "_law_wet"] (defScope s_law_behind) := ⟨rfl, rfl, rfl, by decide +kernel, rfl, by decide +kernel, by decide +kernel⟩
theorem ok_law_behind {f : Addr} {fd : FuncData} (F : Fun K "_law_behind" "_law_behind" s_law_behind f fd) (T : Txt K mg A Z)  : FnOk P w K mg base (L2N.CX P w) 1 f fd ["_law_spec_here", "_law_state", "_law_wet"] (spD K A 3 m_law_behind) :=
  fnD F sc_law_behind fun cdv A' outer s H F0 E hr => by
    have S := sc_law_behind
    have tk : L2N.Takes (cxOf (L2N.CX P w) P w K mg base ["_law_spec_here", "_law_state", "_law_wet", "_law_pots", "_law_cans", "_law_week", "_law_closed", "_law_day", "_law_since", "_law_k", "_law_found", "_law_far"] "_law_behind" (defScope s_law_behind) f cdv A' outer s H E) (fxOf A H F0 E).W := L2N.takes_of rfl rfl rfl rfl
    have hp : PassesOwn (model P w) (A'.deeper (envOfC "_law_behind" (defScope s_law_behind) s.heap.objs.size f cdv)) (envOfC "_law_behind" (defScope s_law_behind) s.heap.objs.size f cdv) (cxOf (L2N.CX P w) P w K mg base ["_law_spec_here", "_law_state", "_law_wet", "_law_pots", "_law_cans", "_law_week", "_law_closed", "_law_day", "_law_since", "_law_k", "_law_found", "_law_far"] "_law_behind" (defScope s_law_behind) f cdv A' outer s H E).xe := passes_of rfl
    have hu := hr.units
    have hu5 := hu65 hr
    exact (pks_cons (pks_unp (fun te g h hg => ps_asg h hg) (pk_var (pv 0)) (pgd_tup rfl (pgsd_cons (pgd_name (pg_name (i := 3) S.nd rfl (Or.inl rfl))) (pgsd_cons (pgd_name (pg_name (i := 4) S.nd rfl (Or.inl rfl))) (pgsd_cons (pgd_name (pg_name (i := 5) S.nd rfl (Or.inl rfl))) (pgsd_cons (pgd_name (pg_name (i := 6) S.nd rfl (Or.inl rfl))) pgsd_nil))))))
    (pks_cons (pks_unp (fun te g h hg => ps_asg h hg) (pk_var (pv 1)) (pgd_tup rfl (pgsd_cons (pgd_name (pg_name (i := 7) S.nd rfl (Or.inl rfl))) (pgsd_cons (pgd_name (pg_name (i := 8) S.nd rfl (Or.inl rfl))) pgsd_nil))))
    (pks_cons (pks_if (PW.pt (pkw_and (pt_ne hu (pk_varB (pv 2)) (pk_bw (pk_lst (k := .fz) pka_nil))) (pkw_and1 (PW.pt (pkw_or (pt_eq hu (pk_bw (pk_and (pk_bw (pk_shr (pk_varB (pv 6)) (pk_varB (pv 7)))) (pk_bw pk_int))) (pk_bw pk_int)) (pkw_or1 (pt_gt (pk_bw (pk_len T.b_len rfl (pka_cons (pk_varB (pv 2)) pka_nil))) (pk_varB (pv 4)))))))))
      (pks_one (pks_ret pk_non))
      pks_nil)
    (pks_cons (pks_for hp rfl (pid_list (pk_var (pv 2))) (pgd_name (pg_name (i := 9) S.nd rfl (Or.inl rfl)))
      (pks_one (pks_if (pt_lt (pk_bw (pk_ix (fun _ _ => rfl) (pk_varB (pv 8)) (pk_varB (pv 9)))) (pk_bw (pk_ix (fun _ _ => rfl) (pk_bw (pk_ix (fun _ _ => rfl) (pk_varB (pv 3)) (pk_varB (pv 9)))) (pk_bw pk_int))))
        (pks_one (pks_ret pk_non))
        pks_nil)))
    (pks_cons (pks_setO (fun te h => ps_set (i := 10) S.nd rfl (Or.inl rfl) h) (pk_lst (k := .ow) pka_nil))
    (pks_cons (pks_for hp rfl (pid_range1 T.b_range rfl (pka_cons (pk_bw (pk_len T.b_len rfl (pka_cons (pk_varB (pv 3)) pka_nil))) pka_nil)) (pgd_name (pg_name (i := 9) S.nd rfl (Or.inl rfl)))
      (pks_cons (pks_set (fun te h => ps_set (i := 11) S.nd rfl (Or.inl rfl) h) (pk_if (pt_in hu5 rfl (pk_varB (pv 9)) (pk_varB (pv 2))) pk_int (pk_addU (pk_bw (pk_ix (fun _ _ => rfl) (pk_varB (pv 8)) (pk_varB (pv 9)))) (pk_bw pk_int))))
      (pks_cons (pks_if (pt_eq hu (pk_varB (pv 11)) (pk_bw (pk_ix (fun _ _ => rfl) (pk_bw (pk_ix (fun _ _ => rfl) (pk_varB (pv 3)) (pk_varB (pv 9)))) (pk_bw pk_int))))
        (pks_one (pks_ret (pk_ix (fun _ _ => rfl) (pk_bw (pk_ix (fun _ _ => rfl) (pk_varB (pv 3)) (pk_varB (pv 9)))) (pk_bw pk_int))))
        pks_nil)
      (pks_one (pks_app (fun te ta h ha => ps_expr (pe_bm PySem.F.plainAttrs_list PySem.F.slot_list_append PySem.F.type_list_append mt_append h ha)) (pv 10) (pk_var (pv 11)))))))
    (pks_one (pks_ret (pk_tup (pka_cons (pk_mod (pk_bw (pk_addU (pk_varB (pv 7)) (pk_bw pk_int))) (pk_varB (pv 5))) (pka_cons (pk_tuple T.b_tuple rfl (pka_cons (pk_varB (pv 10)) pka_nil)) pka_nil)))))))))))
theorem sc_law_walked : FnScope ["_law_spec_here", "_law_rows_here", "_law_state", "_law_first", "_law_names", "_law_k", "_law_wet", "_law_ahead", "_law_name", "_law_gap", "_law_rest"] ["_law_spec_here", "_law_rows_here", "_law_state", "_law_first"] (defScope s_law_walked) := ⟨rfl, rfl, rfl, by decide +kernel, rfl, by decide +kernel, by decide +kernel⟩
theorem ok_law_walked {f : Addr} {fd : FuncData} (F : Fun K "_law_walked" "_law_walked" s_law_walked f fd) (T : Txt K mg A Z) (c_law_behind : Cal P w K mg base A 1 "_law_behind" 3 m_law_behind []) : FnOk P w K mg base (L2N.CX P w) 2 f fd ["_law_spec_here", "_law_rows_here", "_law_state", "_law_first"] (spD K A 4 m_law_walked) :=
  fnD F sc_law_walked fun cdv A' outer s H F0 E hr => by
    have S := sc_law_walked
    have tk : L2N.Takes (cxOf (L2N.CX P w) P w K mg base ["_law_spec_here", "_law_rows_here", "_law_state", "_law_first", "_law_names", "_law_k", "_law_wet", "_law_ahead", "_law_name", "_law_gap", "_law_rest"] "_law_walked" (defScope s_law_walked) f cdv A' outer s H E) (fxOf A H F0 E).W := L2N.takes_of rfl rfl rfl rfl
    have hp : PassesOwn (model P w) (A'.deeper (envOfC "_law_walked" (defScope s_law_walked) s.heap.objs.size f cdv)) (envOfC "_law_walked" (defScope s_law_walked) s.heap.objs.size f cdv) (cxOf (L2N.CX P w) P w K mg base ["_law_spec_here", "_law_rows_here", "_law_state", "_law_first", "_law_names", "_law_k", "_law_wet", "_law_ahead", "_law_name", "_law_gap", "_law_rest"] "_law_walked" (defScope s_law_walked) f cdv A' outer s H E).xe := passes_of rfl
    have hu := hr.units
    have hu5 := hu65 hr
    exact (pks_cons (pks_set (fun te h => ps_set (i := 4) S.nd rfl (Or.inr rfl) h) (pk_lc (k := .fz) (by decide) (by decide) (pe_lc (own := [("_law_name", 8), ("_law_gap", 9), ("_law_rest", 10)]) rfl S.nd (pid_list (pk_ix (fun _ _ => rfl) (pk_varB (pv 0)) (pk_bw pk_int))) (blkOk_by (own := [("_law_name", 8), ("_law_gap", 9), ("_law_rest", 10)]) (N := ["_law_spec_here", "_law_rows_here", "_law_state", "_law_first", "_law_names", "_law_k", "_law_wet", "_law_ahead", "_law_name", "_law_gap", "_law_rest"]) (sc := defScope s_law_walked) (by decide +kernel)) (fun _ _ _ _ _ => (pgd_tup rfl (pgsd_cons (pgd_name (pg_name (i := 8) S.nd rfl (Or.inl rfl))) (pgsd_cons (pgd_name (pg_name (i := 9) S.nd rfl (Or.inl rfl))) (pgsd_cons (pgd_name (pg_name (i := 10) S.nd rfl (Or.inl rfl))) pgsd_nil))))) (fun _ _ _ _ _ => ptsd_nil) (fun _ _ _ _ _ => (pk_var (pv 8))))))
    (pks_cons (pks_for hp rfl (pid_range1 T.b_range rfl (pka_cons (pk_bw (pk_len T.b_len rfl (pka_cons (pk_varB (pv 1)) pka_nil))) pka_nil)) (pgd_name (pg_name (i := 5) S.nd rfl (Or.inl rfl)))
      (pks_cons (pks_set (fun te h => ps_set (i := 6) S.nd rfl (Or.inr rfl) h) (pk_lc (k := .fz) (by decide) (by decide) (pe_lc (own := [("_law_name", 8)]) rfl S.nd (pid_list (pk_ix (fun _ _ => rfl) (pk_varB (pv 1)) (pk_varB (pv 5)))) (blkOk_by (own := [("_law_name", 8)]) (N := ["_law_spec_here", "_law_rows_here", "_law_state", "_law_first", "_law_names", "_law_k", "_law_wet", "_law_ahead", "_law_name", "_law_gap", "_law_rest"]) (sc := defScope s_law_walked) (by decide +kernel)) (fun _ _ _ _ _ => (pgd_name (pg_name (i := 8) S.nd rfl (Or.inl rfl)))) (fun _ _ _ _ _ => (ptsd_one (pt_in hu5 rfl (pk_varB (pv 8)) (pk_varB (pv 4))))) (fun _ _ _ _ _ => (pk_index (pk_varB (pv 4)) (pka_cons (pk_varB (pv 8)) pka_nil))))))
      (pks_cons (pks_if (pt_lt (pk_bw (pk_len T.b_len rfl (pka_cons (pk_varB (pv 6)) pka_nil))) (pk_bw (pk_len T.b_len rfl (pka_cons (pk_bw (pk_ix (fun _ _ => rfl) (pk_varB (pv 1)) (pk_varB (pv 5)))) pka_nil))))
        (pks_one (pks_ret (pk_tup (pka_cons pk_str (pka_cons (pk_addU (pk_varB (pv 3)) (pk_varB (pv 5))) pka_nil)))))
        pks_nil)
      (pks_cons (pks_if (pt_lt (pk_bw (pk_len T.b_len rfl (pka_cons (pk_bw (pk_lc (k := .fz) (by decide) (by decide) (pe_lc (own := [("_law_k", 5)]) rfl S.nd (pid_range1 T.b_range rfl (pka_cons (pk_bw (pk_len T.b_len rfl (pka_cons (pk_varB (pv 4)) pka_nil))) pka_nil)) (blkOk_by (own := [("_law_k", 5)]) (N := ["_law_spec_here", "_law_rows_here", "_law_state", "_law_first", "_law_names", "_law_k", "_law_wet", "_law_ahead", "_law_name", "_law_gap", "_law_rest"]) (sc := defScope s_law_walked) (by decide +kernel)) (fun _ _ _ _ _ => (pgd_name (pg_name (i := 5) S.nd rfl (Or.inl rfl)))) (fun _ _ _ _ _ => (ptsd_one (pt_in hu5 rfl (pk_varB (pv 5)) (pk_varB (pv 6))))) (fun _ _ _ _ _ => (pk_var (pv 5)))))) pka_nil))) (pk_bw (pk_len T.b_len rfl (pka_cons (pk_varB (pv 6)) pka_nil))))
        (pks_one (pks_ret (pk_tup (pka_cons pk_str (pka_cons (pk_addU (pk_varB (pv 3)) (pk_varB (pv 5))) pka_nil)))))
        pks_nil)
      (pks_cons (pks_set (fun te h => ps_set (i := 7) S.nd rfl (Or.inl rfl) h) (pk_f c_law_behind tk (hr.mono (by decide)) (pka_cons (pk_var (pv 0)) (pka_cons (pk_var (pv 2)) (pka_cons (pk_var (pv 6)) pka_nil)))))
      (pks_cons (pks_if (pt_isN (pk_varB (pv 7)) (pk_bw pk_non))
        (pks_one (pks_ret (pk_tup (pka_cons pk_str (pka_cons (pk_addU (pk_varB (pv 3)) (pk_varB (pv 5))) pka_nil)))))
        pks_nil)
      (pks_cons (pks_if (pkt_not (pt_b (pk_bw (pk_is T.cf is_tuple (.ty "tuple") T.b_isinstance rfl (pe_bltn rfl T.b_tuple (by decide +kernel) rfl) (pk_varB (pv 7))))))
        (pks_one (pks_ret (pk_tup (pka_cons pk_str (pka_cons (pk_addU (pk_varB (pv 3)) (pk_varB (pv 5))) (pka_cons (pk_var (pv 7)) pka_nil))))))
        pks_nil)
      (pks_one (pks_set (fun te h => ps_set (i := 2) S.nd rfl (Or.inl rfl) h) (pk_var (pv 7)))))))))))
    (pks_one (pks_ret (pk_tup (pka_cons pk_str (pka_cons (pk_var (pv 2)) pka_nil)))))))
theorem sc_BadDay_init : FnScope ["self", "day"] ["self", "day"] (defScope s_BadDay_init) := ⟨rfl, rfl, rfl, by decide +kernel, rfl, by decide +kernel, by decide +kernel⟩
theorem ok_BadDay_init {f C GE : Addr} {fd : FuncData} {mc : Value} (F : Fun K "__init__" "BadDay.__init__" s_BadDay_init f fd) (hm : mg "GardenError" = some (.ref GE)) (rd : ClX.CRead K GE mc) (hv : PySem.W.findCls K (.ref GE) mc "__init__" = some (.val (.builtin "ValueError.__init__"))) : FnOk P w K mg base (L2N.CX P w) 1 f fd ["self", "day"] (spX K C "day") :=
  fnX (z := "a day that is not allowed") F sc_BadDay_init fun cdv R outer s H E hr => by
    have S := sc_BadDay_init
    exact pss_cons (ps_expr (pe_ginit hm rd hv (pa_cons (pv 0) (pa_cons pe_str pa_nil)))) (pss_cons (ps_ost (pv 0) (pv 1)) pss_nil)
theorem sc_Garden_number : FnScope ["self", "state", "found", "k"] ["self", "state"] (defScope s_Garden_number) := ⟨rfl, rfl, rfl, by decide +kernel, rfl, by decide +kernel, by decide +kernel⟩
theorem ok_Garden_number {f : Addr} {fd : FuncData} (F : Fun K "number" "Garden.number" s_Garden_number f fd) (T : Txt K mg A Z) (c_within : Cal P w K mg base A 2 "within" 3 m_within []) : FnOk P w K mg base (L2N.CX P w) 3 f fd ["self", "state"] (spD K A 2 m_Garden_number) :=
  fnD F sc_Garden_number fun cdv A' outer s H F0 E hr => by
    have S := sc_Garden_number
    have tk : L2N.Takes (cxOf (L2N.CX P w) P w K mg base ["self", "state", "found", "k"] "Garden.number" (defScope s_Garden_number) f cdv A' outer s H E) (fxOf A H F0 E).W := L2N.takes_of rfl rfl rfl rfl
    have hp : PassesOwn (model P w) (A'.deeper (envOfC "Garden.number" (defScope s_Garden_number) s.heap.objs.size f cdv)) (envOfC "Garden.number" (defScope s_Garden_number) s.heap.objs.size f cdv) (cxOf (L2N.CX P w) P w K mg base ["self", "state", "found", "k"] "Garden.number" (defScope s_Garden_number) f cdv A' outer s H E).xe := passes_of rfl
    have hu := hr.units
    have hu5 := hu65 hr
    exact (pks_cons (pks_if (PW.pt (pkw_or (pkt_not (pt_b (pk_bw (pk_is T.cf is_tuple (.ty "tuple") T.b_isinstance rfl (pe_bltn rfl T.b_tuple (by decide +kernel) rfl) (pk_varB (pv 1)))))) (pkw_or (pt_ne hu (pk_bw (pk_len T.b_len rfl (pka_cons (pk_varB (pv 1)) pka_nil))) (pk_bw pk_int)) (pkw_or1 (pkt_not (pt_b (pk_bw (pk_f c_within tk (hr.mono (by decide)) (pka_cons (pk_ix (fun _ _ => rfl) (pk_varB (pv 1)) (pk_bw pk_int)) (pka_cons pk_int (pka_cons (pk_sub (pk_bw (pk_fld T.cf (pk_varB (pv 0)))) (pk_bw pk_int)) pka_nil)))))))))))
      (pks_one (pks_raise (y := .noState) rfl tk T.x_NoState (fun _ => rfl)))
      pks_nil)
    (pks_cons (pks_if (PW.pt (pkw_or (pkt_not (pt_b (pk_bw (pk_is T.cf is_tuple (.ty "tuple") T.b_isinstance rfl (pe_bltn rfl T.b_tuple (by decide +kernel) rfl) (pk_bw (pk_ix (fun _ _ => rfl) (pk_varB (pv 1)) (pk_bw pk_int))))))) (pkw_or1 (pt_ne hu (pk_bw (pk_len T.b_len rfl (pka_cons (pk_bw (pk_ix (fun _ _ => rfl) (pk_varB (pv 1)) (pk_bw pk_int))) pka_nil))) (pk_bw (pk_len T.b_len rfl (pka_cons (pk_bw (pk_fld T.cf (pk_varB (pv 0)))) pka_nil)))))))
      (pks_one (pks_raise (y := .noState) rfl tk T.x_NoState (fun _ => rfl)))
      pks_nil)
    (pks_cons (pks_set (fun te h => ps_set (i := 2) S.nd rfl (Or.inl rfl) h) (pk_ix (fun _ _ => rfl) (pk_varB (pv 1)) (pk_bw pk_int)))
    (pks_cons (pks_for hp rfl (pid_range1 T.b_range rfl (pka_cons (pk_bw (pk_len T.b_len rfl (pka_cons (pk_bw (pk_fld T.cf (pk_varB (pv 0)))) pka_nil))) pka_nil)) (pgd_name (pg_name (i := 3) S.nd rfl (Or.inl rfl)))
      (pks_cons (pks_if (pkt_not (pt_b (pk_bw (pk_f c_within tk (hr.mono (by decide)) (pka_cons (pk_ix (fun _ _ => rfl) (pk_bw (pk_ix (fun _ _ => rfl) (pk_varB (pv 1)) (pk_bw pk_int))) (pk_varB (pv 3))) (pka_cons pk_int (pka_cons (pk_sub (pk_bw (pk_fld T.cf (pk_bw (pk_ix (fun _ _ => rfl) (pk_bw (pk_fld T.cf (pk_varB (pv 0)))) (pk_varB (pv 3)))))) (pk_bw pk_int)) pka_nil)))))))
        (pks_one (pks_raise (y := .noState) rfl tk T.x_NoState (fun _ => rfl)))
        pks_nil)
      (pks_one (pks_set (fun te h => ps_set (i := 2) S.nd rfl (Or.inl rfl) h) (pk_addU (pk_bw (pk_mulU (pk_varB (pv 2)) (pk_bw (pk_fld T.cf (pk_bw (pk_ix (fun _ _ => rfl) (pk_bw (pk_fld T.cf (pk_varB (pv 0)))) (pk_varB (pv 3)))))))) (pk_bw (pk_ix (fun _ _ => rfl) (pk_bw (pk_ix (fun _ _ => rfl) (pk_varB (pv 1)) (pk_bw pk_int))) (pk_varB (pv 3)))))))))
    (pks_one (pks_ret (pk_var (pv 2))))))))
theorem sc_Cactus_may : FnScope ["self", "since"] ["self", "since"] (defScope s_Cactus_may) := ⟨rfl, rfl, rfl, by decide +kernel, rfl, by decide +kernel, by decide +kernel⟩
theorem ok_Cactus_may {f : Addr} {fd : FuncData} (F : Fun K "may" "Cactus.may" s_Cactus_may f fd) (T : Txt K mg A Z)  : FnOk P w K mg base (L2N.CX P w) 1 f fd ["self", "since"] (spD K A 2 m_Cactus_may) :=
  fnD F sc_Cactus_may fun cdv A' outer s H F0 E hr => by
    have S := sc_Cactus_may
    have tk : L2N.Takes (cxOf (L2N.CX P w) P w K mg base ["self", "since"] "Cactus.may" (defScope s_Cactus_may) f cdv A' outer s H E) (fxOf A H F0 E).W := L2N.takes_of rfl rfl rfl rfl
    have hp : PassesOwn (model P w) (A'.deeper (envOfC "Cactus.may" (defScope s_Cactus_may) s.heap.objs.size f cdv)) (envOfC "Cactus.may" (defScope s_Cactus_may) s.heap.objs.size f cdv) (cxOf (L2N.CX P w) P w K mg base ["self", "since"] "Cactus.may" (defScope s_Cactus_may) f cdv A' outer s H E).xe := passes_of rfl
    have hu := hr.units
    have hu5 := hu65 hr
    exact (pks_one (pks_ret (pk_ge (pk_varB (pv 1)) (pk_bw (pk_fld T.cf (pk_varB (pv 0)))))))
theorem sc_Pot_may : FnScope ["self", "since"] ["self", "since"] (defScope s_Pot_may) := ⟨rfl, rfl, rfl, by decide +kernel, rfl, by decide +kernel, by decide +kernel⟩
theorem ok_Pot_may {f : Addr} {fd : FuncData} (F : Fun K "may" "Pot.may" s_Pot_may f fd) (T : Txt K mg A Z)  : FnOk P w K mg base (L2N.CX P w) 1 f fd ["self", "since"] (spD K A 2 m_Pot_may) :=
  fnD F sc_Pot_may fun cdv A' outer s H F0 E hr => by
    have S := sc_Pot_may
    have tk : L2N.Takes (cxOf (L2N.CX P w) P w K mg base ["self", "since"] "Pot.may" (defScope s_Pot_may) f cdv A' outer s H E) (fxOf A H F0 E).W := L2N.takes_of rfl rfl rfl rfl
    have hp : PassesOwn (model P w) (A'.deeper (envOfC "Pot.may" (defScope s_Pot_may) s.heap.objs.size f cdv)) (envOfC "Pot.may" (defScope s_Pot_may) s.heap.objs.size f cdv) (cxOf (L2N.CX P w) P w K mg base ["self", "since"] "Pot.may" (defScope s_Pot_may) f cdv A' outer s H E).xe := passes_of rfl
    have hu := hr.units
    have hu5 := hu65 hr
    exact (pks_one (pks_ret pk_bl))
theorem sc_bits_of : FnScope ["number", "found", "place"] ["number"] (defScope s_bits_of) := ⟨rfl, rfl, rfl, by decide +kernel, rfl, by decide +kernel, by decide +kernel⟩
theorem ok_bits_of {f : Addr} {fd : FuncData} (F : Fun K "bits_of" "bits_of" s_bits_of f fd) (T : Txt K mg A Z)  : FnOk P w K mg base (L2N.CX P w) 1 f fd ["number"] (spD K A 1 m_bits_of) :=
  fnD F sc_bits_of fun cdv A' outer s H F0 E hr => by
    have S := sc_bits_of
    have tk : L2N.Takes (cxOf (L2N.CX P w) P w K mg base ["number", "found", "place"] "bits_of" (defScope s_bits_of) f cdv A' outer s H E) (fxOf A H F0 E).W := L2N.takes_of rfl rfl rfl rfl
    have hp : PassesOwn (model P w) (A'.deeper (envOfC "bits_of" (defScope s_bits_of) s.heap.objs.size f cdv)) (envOfC "bits_of" (defScope s_bits_of) s.heap.objs.size f cdv) (cxOf (L2N.CX P w) P w K mg base ["number", "found", "place"] "bits_of" (defScope s_bits_of) f cdv A' outer s H E).xe := passes_of rfl
    have hu := hr.units
    have hu5 := hu65 hr
    exact (pks_cons (pks_setO (fun te h => ps_set (i := 1) S.nd rfl (Or.inl rfl) h) (pk_lst (k := .ow) pka_nil))
    (pks_cons (pks_set (fun te h => ps_set (i := 2) S.nd rfl (Or.inl rfl) h) pk_int)
    (pks_cons (pks_while hp (pt_gt (pk_varB (pv 0)) (pk_bw pk_int))
      (pks_cons (pks_if (pt_eq hu (pk_bw (pk_and (pk_varB (pv 0)) (pk_bw pk_int))) (pk_bw pk_int))
        (pks_one (pks_app (fun te ta h ha => ps_expr (pe_bm PySem.F.plainAttrs_list PySem.F.slot_list_append PySem.F.type_list_append mt_append h ha)) (pv 1) (pk_var (pv 2))))
        pks_nil)
      (pks_cons (pks_set (fun te h => ps_set (i := 0) S.nd rfl (Or.inl rfl) h) (pk_shr (pk_varB (pv 0)) (pk_bw pk_int)))
      (pks_one (pks_aug op2_I0 nox_I (fun te h => ps_aug (i := 2) S.nd rfl (Or.inl rfl) h iop_add) (pk_bw pk_int))))))
    (pks_one (pks_retV (pv 1))))))
theorem sc_allowed : FnScope ["garden", "state", "chosen", "day", "since", "places", "place"] ["garden", "state", "chosen"] (defScope s_allowed) := ⟨rfl, rfl, rfl, by decide +kernel, rfl, by decide +kernel, by decide +kernel⟩
theorem ok_allowed {f : Addr} {fd : FuncData} (F : Fun K "allowed" "allowed" s_allowed f fd) (T : Txt K mg A Z) (c_bits_of : Cal P w K mg base A 1 "bits_of" 1 m_bits_of []) (mt_may : ∀ c m, tb_may c = some m → MtD P w K mg base A 1 c "may" 2 m) : FnOk P w K mg base (L2N.CX P w) 2 f fd ["garden", "state", "chosen"] (spD K A 3 m_allowed) :=
  fnD F sc_allowed fun cdv A' outer s H F0 E hr => by
    have S := sc_allowed
    have tk : L2N.Takes (cxOf (L2N.CX P w) P w K mg base ["garden", "state", "chosen", "day", "since", "places", "place"] "allowed" (defScope s_allowed) f cdv A' outer s H E) (fxOf A H F0 E).W := L2N.takes_of rfl rfl rfl rfl
    have hp : PassesOwn (model P w) (A'.deeper (envOfC "allowed" (defScope s_allowed) s.heap.objs.size f cdv)) (envOfC "allowed" (defScope s_allowed) s.heap.objs.size f cdv) (cxOf (L2N.CX P w) P w K mg base ["garden", "state", "chosen", "day", "since", "places", "place"] "allowed" (defScope s_allowed) f cdv A' outer s H E).xe := passes_of rfl
    have hu := hr.units
    have hu5 := hu65 hr
    exact (pks_cons (pks_unp (fun te g h hg => ps_asg h hg) (pk_var (pv 1)) (pgd_tup rfl (pgsd_cons (pgd_name (pg_name (i := 3) S.nd rfl (Or.inl rfl))) (pgsd_cons (pgd_name (pg_name (i := 4) S.nd rfl (Or.inl rfl))) pgsd_nil))))
    (pks_cons (pks_set (fun te h => ps_set (i := 5) S.nd rfl (Or.inl rfl) h) (pk_f c_bits_of tk (hr.mono (by decide)) (pka_cons (pk_var (pv 2)) pka_nil)))
    (pks_cons (pks_if (PW.pt (pkw_or (pt_eq hu (pk_bw (pk_and (pk_bw (pk_shr (pk_bw (pk_fld T.cf (pk_varB (pv 0)))) (pk_varB (pv 3)))) (pk_bw pk_int))) (pk_bw pk_int)) (pkw_or1 (pt_gt (pk_bw (pk_len T.b_len rfl (pka_cons (pk_varB (pv 5)) pka_nil))) (pk_bw (pk_fld T.cf (pk_varB (pv 0))))))))
      (pks_one (pks_ret (pk_eq hu (pk_varB (pv 2)) (pk_bw pk_int))))
      pks_nil)
    (pks_cons (pks_for hp rfl (pid_list (pk_var (pv 5))) (pgd_name (pg_name (i := 6) S.nd rfl (Or.inl rfl)))
      (pks_one (pks_if (PW.pt (pkw_or (pt_ge (pk_varB (pv 6)) (pk_bw (pk_len T.b_len rfl (pka_cons (pk_varB (pv 4)) pka_nil)))) (pkw_or1 (pkt_not (pt_b (pk_bw (pk_meth (c0 := .pot) dc_call tk mt_may (hr.mono (by decide)) rfl (pk_ix (fun _ _ => rfl) (pk_bw (pk_fld T.cf (pk_varB (pv 0)))) (pk_varB (pv 6))) (pka_cons (pk_ix (fun _ _ => rfl) (pk_varB (pv 4)) (pk_varB (pv 6))) pka_nil))))))))
        (pks_one (pks_ret pk_bl))
        pks_nil)))
    (pks_one (pks_ret pk_bl))))))
theorem sc_behind : FnScope ["garden", "state", "chosen", "day", "since", "found", "k"] ["garden", "state", "chosen"] (defScope s_behind) := ⟨rfl, rfl, rfl, by decide +kernel, rfl, by decide +kernel, by decide +kernel⟩
theorem ok_behind {f : Addr} {fd : FuncData} (F : Fun K "behind" "behind" s_behind f fd) (T : Txt K mg A Z)  : FnOk P w K mg base (L2N.CX P w) 1 f fd ["garden", "state", "chosen"] (spD K A 3 m_behind) :=
  fnD F sc_behind fun cdv A' outer s H F0 E hr => by
    have S := sc_behind
    have tk : L2N.Takes (cxOf (L2N.CX P w) P w K mg base ["garden", "state", "chosen", "day", "since", "found", "k"] "behind" (defScope s_behind) f cdv A' outer s H E) (fxOf A H F0 E).W := L2N.takes_of rfl rfl rfl rfl
    have hp : PassesOwn (model P w) (A'.deeper (envOfC "behind" (defScope s_behind) s.heap.objs.size f cdv)) (envOfC "behind" (defScope s_behind) s.heap.objs.size f cdv) (cxOf (L2N.CX P w) P w K mg base ["garden", "state", "chosen", "day", "since", "found", "k"] "behind" (defScope s_behind) f cdv A' outer s H E).xe := passes_of rfl
    have hu := hr.units
    have hu5 := hu65 hr
    exact (pks_cons (pks_unp (fun te g h hg => ps_asg h hg) (pk_var (pv 1)) (pgd_tup rfl (pgsd_cons (pgd_name (pg_name (i := 3) S.nd rfl (Or.inl rfl))) (pgsd_cons (pgd_name (pg_name (i := 4) S.nd rfl (Or.inl rfl))) pgsd_nil))))
    (pks_cons (pks_setO (fun te h => ps_set (i := 5) S.nd rfl (Or.inl rfl) h) (pk_lst (k := .ow) pka_nil))
    (pks_cons (pks_for hp rfl (pid_range1 T.b_range rfl (pka_cons (pk_bw (pk_len T.b_len rfl (pka_cons (pk_varB (pv 4)) pka_nil))) pka_nil)) (pgd_name (pg_name (i := 6) S.nd rfl (Or.inl rfl)))
      (pks_one (pks_if (pt_eq hu (pk_bw (pk_and (pk_bw (pk_shr (pk_varB (pv 2)) (pk_varB (pv 6)))) (pk_bw pk_int))) (pk_bw pk_int))
        (pks_one (pks_app (fun te ta h ha => ps_expr (pe_bm PySem.F.plainAttrs_list PySem.F.slot_list_append PySem.F.type_list_append mt_append h ha)) (pv 5) pk_int))
        (pks_one (pks_if (pt_eq hu (pk_bw (pk_addU (pk_bw (pk_ix (fun _ _ => rfl) (pk_varB (pv 4)) (pk_varB (pv 6)))) (pk_bw pk_int))) (pk_bw (pk_fld T.cf (pk_bw (pk_ix (fun _ _ => rfl) (pk_bw (pk_fld T.cf (pk_varB (pv 0)))) (pk_varB (pv 6)))))))
          (pks_one (pks_ret pk_non))
          (pks_one (pks_app (fun te ta h ha => ps_expr (pe_bm PySem.F.plainAttrs_list PySem.F.slot_list_append PySem.F.type_list_append mt_append h ha)) (pv 5) (pk_addU (pk_bw (pk_ix (fun _ _ => rfl) (pk_varB (pv 4)) (pk_varB (pv 6)))) (pk_bw pk_int)))))))))
    (pks_one (pks_ret (pk_tup (pka_cons (pk_mod (pk_bw (pk_addU (pk_varB (pv 3)) (pk_bw pk_int))) (pk_bw (pk_fld T.cf (pk_varB (pv 0))))) (pka_cons (pk_tuple T.b_tuple rfl (pka_cons (pk_varB (pv 5)) pka_nil)) pka_nil))))))))
theorem sc_Garden_place : FnScope ["self", "name"] ["self", "name"] (defScope s_Garden_place) := ⟨rfl, rfl, rfl, by decide +kernel, rfl, by decide +kernel, by decide +kernel⟩
theorem ok_Garden_place {f : Addr} {fd : FuncData} (F : Fun K "place" "Garden.place" s_Garden_place f fd) (T : Txt K mg A Z)  : FnOk P w K mg base (L2N.CX P w) 1 f fd ["self", "name"] (spD K A 2 m_Garden_place) :=
  fnD F sc_Garden_place fun cdv A' outer s H F0 E hr => by
    have S := sc_Garden_place
    have tk : L2N.Takes (cxOf (L2N.CX P w) P w K mg base ["self", "name"] "Garden.place" (defScope s_Garden_place) f cdv A' outer s H E) (fxOf A H F0 E).W := L2N.takes_of rfl rfl rfl rfl
    have hp : PassesOwn (model P w) (A'.deeper (envOfC "Garden.place" (defScope s_Garden_place) s.heap.objs.size f cdv)) (envOfC "Garden.place" (defScope s_Garden_place) s.heap.objs.size f cdv) (cxOf (L2N.CX P w) P w K mg base ["self", "name"] "Garden.place" (defScope s_Garden_place) f cdv A' outer s H E).xe := passes_of rfl
    have hu := hr.units
    have hu5 := hu65 hr
    exact (pks_cons (pks_if (PW.pt (pkw_or (pkt_not (pt_b (pk_bw (pk_is T.cf is_str (.ty "str") T.b_isinstance rfl (pe_bltn rfl T.b_str (by decide +kernel) rfl) (pk_varB (pv 1)))))) (pkw_or1 (pt_ninO hu5 rfl (pk_varB (pv 1)) (pk_bw (pk_fld T.cf (pk_varB (pv 0))))))))
      (pks_one (pks_raise (y := .noPot) rfl tk T.x_NoPot (fun _ => rfl)))
      pks_nil)
    (pks_one (pks_ret (pk_getO hu5 (fun _ _ => rfl) (pk_bw (pk_fld T.cf (pk_varB (pv 0)))) (pk_varB (pv 1))))))
theorem sc_chosen_by : FnScope ["garden", "names", "day", "bits", "places", "place", "name"] ["garden", "names", "day"] (defScope s_chosen_by) := ⟨rfl, rfl, rfl, by decide +kernel, rfl, by decide +kernel, by decide +kernel⟩
theorem ok_chosen_by {f : Addr} {fd : FuncData} (F : FunD K "chosen_by" "chosen_by" (defArgs s_chosen_by) (defBody s_chosen_by) (defScope s_chosen_by) [V.int 0] [] f fd) (T : Txt K mg A Z) (xf_BadDay : XclF P w K mg base A 2 "BadDay" .badDay "day") (mt_place : ∀ c m, tb_place c = some m → MtD P w K mg base A 1 c "place" 2 m) : FnOk P w K mg base (L2N.CX P w) 3 f fd ["garden", "names", "day"] (spD K A 3 m_chosen_by) :=
  fnDD F sc_chosen_by fun cdv A' outer s H F0 E hr => by
    have S := sc_chosen_by
    have tk : L2N.Takes (cxOf (L2N.CX P w) P w K mg base ["garden", "names", "day", "bits", "places", "place", "name"] "chosen_by" (defScope s_chosen_by) f cdv A' outer s H E) (fxOf A H F0 E).W := L2N.takes_of rfl rfl rfl rfl
    have hp : PassesOwn (model P w) (A'.deeper (envOfC "chosen_by" (defScope s_chosen_by) s.heap.objs.size f cdv)) (envOfC "chosen_by" (defScope s_chosen_by) s.heap.objs.size f cdv) (cxOf (L2N.CX P w) P w K mg base ["garden", "names", "day", "bits", "places", "place", "name"] "chosen_by" (defScope s_chosen_by) f cdv A' outer s H E).xe := passes_of rfl
    have hu := hr.units
    have hu5 := hu65 hr
    exact (pks_cons (pks_set (fun te h => ps_set (i := 3) S.nd rfl (Or.inl rfl) h) pk_int)
    (pks_cons (pks_setLcE (i := 4) (by decide) (fun _ _ _ _ _ z => z) (ps_setLcE (i := 4) (own := [("name", 6)]) rfl rfl tk (fun _ _ _ _ _ z => z) rfl S.nd rfl rfl (sw_true rfl rfl rfl (by decide +kernel)) (pid_list (pk_var (pv 1))) (blkOk_by (own := [("name", 6)]) (N := ["garden", "names", "day", "bits", "places", "place", "name"]) (sc := defScope s_chosen_by) (by decide +kernel)) (fun _ _ _ _ _ _ tk => (pgd_name (pg_name (i := 6) S.nd rfl (Or.inl rfl)))) (fun _ _ _ _ _ _ tk => ptsd_nil) (fun _ _ _ _ _ _ tk => (pk_meth (c0 := .garden) dc_call tk mt_place (hr.mono (by decide)) rfl (pk_var (pv 0)) (pka_cons (pk_var (pv 6)) pka_nil)))))
    (pks_cons (pks_for hp rfl (pid_list (pk_var (pv 4))) (pgd_name (pg_name (i := 5) S.nd rfl (Or.inl rfl)))
      (pks_cons (pks_if (pt_eq hu (pk_bw (pk_and (pk_bw (pk_shr (pk_varB (pv 3)) (pk_varB (pv 5)))) (pk_bw pk_int))) (pk_bw pk_int))
        (pks_one (pks_raiseF (mk := .badDay) (fun _ => rfl) (fun _ _ _ => Iff.rfl) rfl tk xf_BadDay (hr.mono (by decide)) (pk_var (pv 2))))
        pks_nil)
      (pks_one (pks_set (fun te h => ps_set (i := 3) S.nd rfl (Or.inl rfl) h) (pk_or (pk_varB (pv 3)) (pk_bw (pk_shl (pk_bw pk_int) (pk_varB (pv 5)))))))))
    (pks_one (pks_ret (pk_var (pv 3)))))))
theorem sc_dry_pot : FnScope ["garden", "state", "chosen", "since", "k"] ["garden", "state", "chosen"] (defScope s_dry_pot) := ⟨rfl, rfl, rfl, by decide +kernel, rfl, by decide +kernel, by decide +kernel⟩
theorem ok_dry_pot {f : Addr} {fd : FuncData} (F : Fun K "dry_pot" "dry_pot" s_dry_pot f fd) (T : Txt K mg A Z)  : FnOk P w K mg base (L2N.CX P w) 1 f fd ["garden", "state", "chosen"] (spD K A 3 m_dry_pot) :=
  fnD F sc_dry_pot fun cdv A' outer s H F0 E hr => by
    have S := sc_dry_pot
    have tk : L2N.Takes (cxOf (L2N.CX P w) P w K mg base ["garden", "state", "chosen", "since", "k"] "dry_pot" (defScope s_dry_pot) f cdv A' outer s H E) (fxOf A H F0 E).W := L2N.takes_of rfl rfl rfl rfl
    have hp : PassesOwn (model P w) (A'.deeper (envOfC "dry_pot" (defScope s_dry_pot) s.heap.objs.size f cdv)) (envOfC "dry_pot" (defScope s_dry_pot) s.heap.objs.size f cdv) (cxOf (L2N.CX P w) P w K mg base ["garden", "state", "chosen", "since", "k"] "dry_pot" (defScope s_dry_pot) f cdv A' outer s H E).xe := passes_of rfl
    have hu := hr.units
    have hu5 := hu65 hr
    exact (pks_cons (pks_set (fun te h => ps_set (i := 3) S.nd rfl (Or.inl rfl) h) (pk_ix (fun _ _ => rfl) (pk_varB (pv 1)) (pk_bw pk_int)))
    (pks_cons (pks_for hp rfl (pid_range1 T.b_range rfl (pka_cons (pk_bw (pk_len T.b_len rfl (pka_cons (pk_varB (pv 3)) pka_nil))) pka_nil)) (pgd_name (pg_name (i := 4) S.nd rfl (Or.inl rfl)))
      (pks_one (pks_if (PW.pt (pkw_and (pt_eq hu (pk_bw (pk_and (pk_bw (pk_shr (pk_varB (pv 2)) (pk_varB (pv 4)))) (pk_bw pk_int))) (pk_bw pk_int)) (pkw_and1 (pt_eq hu (pk_bw (pk_addU (pk_bw (pk_ix (fun _ _ => rfl) (pk_varB (pv 3)) (pk_varB (pv 4)))) (pk_bw pk_int))) (pk_bw (pk_fld T.cf (pk_bw (pk_ix (fun _ _ => rfl) (pk_bw (pk_fld T.cf (pk_varB (pv 0)))) (pk_varB (pv 4))))))))))
        (pks_one (pks_ret (pk_fld T.cf (pk_bw (pk_ix (fun _ _ => rfl) (pk_bw (pk_fld T.cf (pk_varB (pv 0)))) (pk_varB (pv 4)))))))
        pks_nil)))
    (pks_one (pks_ret pk_non))))
theorem sc_followed : FnScope ["garden", "rows", "state", "first", "k", "chosen", "ahead"] ["garden", "rows", "state", "first"] (defScope s_followed) := ⟨rfl, rfl, rfl, by decide +kernel, rfl, by decide +kernel, by decide +kernel⟩
theorem ok_followed {f : Addr} {fd : FuncData} (F : FunD K "followed" "followed" (defArgs s_followed) (defBody s_followed) (defScope s_followed) [V.int 0] [] f fd) (T : Txt K mg A Z) (c_allowed : Cal P w K mg base A 2 "allowed" 3 m_allowed []) (c_behind : Cal P w K mg base A 1 "behind" 3 m_behind []) (c_chosen_by : Cal P w K mg base A 3 "chosen_by" 3 m_chosen_by []) (c_dry_pot : Cal P w K mg base A 1 "dry_pot" 3 m_dry_pot []) (xf_BadDay : XclF P w K mg base A 2 "BadDay" .badDay "day") (mt_number : ∀ c m, tb_number c = some m → MtD P w K mg base A 3 c "number" 2 m) : FnOk P w K mg base (L2N.CX P w) 4 f fd ["garden", "rows", "state", "first"] (spD K A 4 m_followed) :=
  fnDD F sc_followed fun cdv A' outer s H F0 E hr => by
    have S := sc_followed
    have tk : L2N.Takes (cxOf (L2N.CX P w) P w K mg base ["garden", "rows", "state", "first", "k", "chosen", "ahead"] "followed" (defScope s_followed) f cdv A' outer s H E) (fxOf A H F0 E).W := L2N.takes_of rfl rfl rfl rfl
    have hp : PassesOwn (model P w) (A'.deeper (envOfC "followed" (defScope s_followed) s.heap.objs.size f cdv)) (envOfC "followed" (defScope s_followed) s.heap.objs.size f cdv) (cxOf (L2N.CX P w) P w K mg base ["garden", "rows", "state", "first", "k", "chosen", "ahead"] "followed" (defScope s_followed) f cdv A' outer s H E).xe := passes_of rfl
    have hu := hr.units
    have hu5 := hu65 hr
    exact (pks_cons (pks_drop (fun te h => ps_expr h) (pk_meth (c0 := .garden) dc_call tk mt_number (hr.mono (by decide)) rfl (pk_var (pv 0)) (pka_cons (pk_var (pv 2)) pka_nil)))
    (pks_cons (pks_for hp rfl (pid_range1 T.b_range rfl (pka_cons (pk_bw (pk_len T.b_len rfl (pka_cons (pk_varB (pv 1)) pka_nil))) pka_nil)) (pgd_name (pg_name (i := 4) S.nd rfl (Or.inl rfl)))
      (pks_cons (pks_set (fun te h => ps_set (i := 5) S.nd rfl (Or.inl rfl) h) (pk_f c_chosen_by tk (hr.mono (by decide)) (pka_cons (pk_var (pv 0)) (pka_cons (pk_ix (fun _ _ => rfl) (pk_varB (pv 1)) (pk_varB (pv 4))) (pka_cons (pk_addU (pk_varB (pv 3)) (pk_varB (pv 4))) pka_nil)))))
      (pks_cons (pks_if (pkt_not (pt_b (pk_bw (pk_f c_allowed tk (hr.mono (by decide)) (pka_cons (pk_var (pv 0)) (pka_cons (pk_var (pv 2)) (pka_cons (pk_var (pv 5)) pka_nil)))))))
        (pks_one (pks_raiseF (mk := .badDay) (fun _ => rfl) (fun _ _ _ => Iff.rfl) rfl tk xf_BadDay (hr.mono (by decide)) (pk_addU (pk_varB (pv 3)) (pk_varB (pv 4)))))
        pks_nil)
      (pks_cons (pks_set (fun te h => ps_set (i := 6) S.nd rfl (Or.inl rfl) h) (pk_f c_behind tk (hr.mono (by decide)) (pka_cons (pk_var (pv 0)) (pka_cons (pk_var (pv 2)) (pka_cons (pk_var (pv 5)) pka_nil)))))
      (pks_cons (pks_if (pt_isN (pk_varB (pv 6)) (pk_bw pk_non))
        (pks_one (pks_ret (pk_tup (pka_cons pk_bl (pka_cons (pk_addU (pk_varB (pv 3)) (pk_varB (pv 4))) (pka_cons (pk_f c_dry_pot tk (hr.mono (by decide)) (pka_cons (pk_var (pv 0)) (pka_cons (pk_var (pv 2)) (pka_cons (pk_var (pv 5)) pka_nil)))) pka_nil))))))
        pks_nil)
      (pks_one (pks_set (fun te h => ps_set (i := 2) S.nd rfl (Or.inl rfl) h) (pk_var (pv 6)))))))))
    (pks_one (pks_ret (pk_tup (pka_cons pk_bl (pka_cons (pk_var (pv 2)) pka_nil)))))))
theorem sc_Garden_fresh : FnScope ["self", "pot"] ["self"] (defScope s_Garden_fresh) := ⟨rfl, rfl, rfl, by decide +kernel, rfl, by decide +kernel, by decide +kernel⟩
theorem ok_Garden_fresh {f : Addr} {fd : FuncData} (F : Fun K "fresh" "Garden.fresh" s_Garden_fresh f fd) (T : Txt K mg A Z)  : FnOk P w K mg base (L2N.CX P w) 1 f fd ["self"] (spD K A 1 m_Garden_fresh) :=
  fnD F sc_Garden_fresh fun cdv A' outer s H F0 E hr => by
    have S := sc_Garden_fresh
    have tk : L2N.Takes (cxOf (L2N.CX P w) P w K mg base ["self", "pot"] "Garden.fresh" (defScope s_Garden_fresh) f cdv A' outer s H E) (fxOf A H F0 E).W := L2N.takes_of rfl rfl rfl rfl
    have hp : PassesOwn (model P w) (A'.deeper (envOfC "Garden.fresh" (defScope s_Garden_fresh) s.heap.objs.size f cdv)) (envOfC "Garden.fresh" (defScope s_Garden_fresh) s.heap.objs.size f cdv) (cxOf (L2N.CX P w) P w K mg base ["self", "pot"] "Garden.fresh" (defScope s_Garden_fresh) f cdv A' outer s H E).xe := passes_of rfl
    have hu := hr.units
    have hu5 := hu65 hr
    exact (pks_one (pks_ret (pk_tup (pka_cons pk_int (pka_cons (pk_tuple T.b_tuple rfl (pka_cons (pk_bw (pk_lc (k := .fz) (by decide) (by decide) (pe_lc (own := [("pot", 1)]) rfl S.nd (pid_list (pk_fld T.cf (pk_varB (pv 0)))) (blkOk_by (own := [("pot", 1)]) (N := ["self", "pot"]) (sc := defScope s_Garden_fresh) (by decide +kernel)) (fun _ _ _ _ _ => (pgd_name (pg_name (i := 1) S.nd rfl (Or.inl rfl)))) (fun _ _ _ _ _ => ptsd_nil) (fun _ _ _ _ _ => pk_int)))) pka_nil)) pka_nil)))))
theorem sc_kept : FnScope ["garden", "rows"] ["garden", "rows"] (defScope s_kept) := ⟨rfl, rfl, rfl, by decide +kernel, rfl, by decide +kernel, by decide +kernel⟩
theorem ok_kept {f : Addr} {fd : FuncData} (F : Fun K "kept" "kept" s_kept f fd) (T : Txt K mg A Z) (c_followed_1 : Cal P w K mg base A 4 "followed" 4 m_followed [.int 0]) (mt_fresh : ∀ c m, tb_fresh c = some m → MtD P w K mg base A 1 c "fresh" 1 m) : FnOk P w K mg base (L2N.CX P w) 5 f fd ["garden", "rows"] (spD K A 2 m_kept) :=
  fnD F sc_kept fun cdv A' outer s H F0 E hr => by
    have S := sc_kept
    have tk : L2N.Takes (cxOf (L2N.CX P w) P w K mg base ["garden", "rows"] "kept" (defScope s_kept) f cdv A' outer s H E) (fxOf A H F0 E).W := L2N.takes_of rfl rfl rfl rfl
    have hp : PassesOwn (model P w) (A'.deeper (envOfC "kept" (defScope s_kept) s.heap.objs.size f cdv)) (envOfC "kept" (defScope s_kept) s.heap.objs.size f cdv) (cxOf (L2N.CX P w) P w K mg base ["garden", "rows"] "kept" (defScope s_kept) f cdv A' outer s H E).xe := passes_of rfl
    have hu := hr.units
    have hu5 := hu65 hr
    exact (pks_one (pks_ret (pk_f c_followed_1 tk (hr.mono (by decide)) (pka_cons (pk_var (pv 0)) (pka_cons (pk_var (pv 1)) (pka_cons (pk_meth0 (c0 := .garden) dc_call tk mt_fresh (hr.mono (by decide)) rfl (pk_var (pv 0))) pka_nil))))))
theorem sc_law_right : FnScope ["_law_garden_here", "_law_spec_here", "_law_rows_here", "_law_state", "_law_first", "_law_way", "_law_due", "_law_handed", "_law_found", "_law_error", "_law_told_here", "_law_row"] ["_law_garden_here", "_law_spec_here", "_law_rows_here", "_law_state", "_law_first", "_law_way"] (defScope s_law_right) := ⟨rfl, rfl, rfl, by decide +kernel, rfl, by decide +kernel, by decide +kernel⟩
theorem ok_law_right {f : Addr} {fd : FuncData} (F : Fun K "_law_right" "_law_right" s_law_right f fd) (T : Txt K mg A Z) (c_followed : Cal P w K mg base A 4 "followed" 4 m_followed []) (c_followed_1 : Cal P w K mg base A 4 "followed" 4 m_followed [.int 0]) (c_kept : Cal P w K mg base A 5 "kept" 2 m_kept []) (c_law_told : Cal P w K mg base A 1 "_law_told" 1 m_law_told []) (c_law_walked : Cal P w K mg base A 2 "_law_walked" 4 m_law_walked []) (ce_law_refusal : CalE P w K mg base A 2 "_law_refusal" m_law_refusal) : FnG P w K mg base (L2N.CX P w) 6 f fd ["_law_garden_here", "_law_spec_here", "_law_rows_here", "_law_state", "_law_first", "_law_way"] (spD K A 6 m_law_right) :=
  fnG F sc_law_right fun cdv A' outer s H F0 E hgd hr => by
    have S := sc_law_right
    have tk : L2N.Takes (cxOf (L2N.CX P w) P w K mg base ["_law_garden_here", "_law_spec_here", "_law_rows_here", "_law_state", "_law_first", "_law_way", "_law_due", "_law_handed", "_law_found", "_law_error", "_law_told_here", "_law_row"] "_law_right" (defScope s_law_right) f cdv A' outer s H E) (fxOf A H F0 E).W := L2N.takes_of rfl rfl rfl rfl
    have hp : PassesOwn (model P w) (A'.deeper (envOfC "_law_right" (defScope s_law_right) s.heap.objs.size f cdv)) (envOfC "_law_right" (defScope s_law_right) s.heap.objs.size f cdv) (cxOf (L2N.CX P w) P w K mg base ["_law_garden_here", "_law_spec_here", "_law_rows_here", "_law_state", "_law_first", "_law_way", "_law_due", "_law_handed", "_law_found", "_law_error", "_law_told_here", "_law_row"] "_law_right" (defScope s_law_right) f cdv A' outer s H E).xe := passes_of rfl
    have hu := hr.units
    have hu5 := hu65 hr
    exact (pks_cons (pks_set (fun te h => ps_set (i := 6) S.nd rfl (Or.inl rfl) h) (pk_f c_law_walked tk (hr.mono (by decide)) (pka_cons (pk_var (pv 1)) (pka_cons (pk_var (pv 2)) (pka_cons (pk_var (pv 3)) (pka_cons (pk_var (pv 4)) pka_nil))))))
    (pks_cons (pks_setLc (i := 7) (by decide) (ps_setLc (i := 7) (own := [("_law_row", 11)]) rfl S.nd rfl rfl (sw_true rfl rfl rfl (by decide +kernel)) (pid_list (pk_var (pv 2))) (blkOk_by (own := [("_law_row", 11)]) (N := ["_law_garden_here", "_law_spec_here", "_law_rows_here", "_law_state", "_law_first", "_law_way", "_law_due", "_law_handed", "_law_found", "_law_error", "_law_told_here", "_law_row"]) (sc := defScope s_law_right) (by decide +kernel)) (fun _ _ _ _ _ => (pgd_name (pg_name (i := 11) S.nd rfl (Or.inl rfl)))) (fun _ _ _ _ _ => ptsd_nil) (fun _ _ _ _ _ => (pk_list (k := .fz) T.b_list rfl (pka_cons (pk_varB (pv 11)) pka_nil)))))
    (pks_cons (pks_tryAs (i := 9) (ct := ct_GardenError) rfl rfl S.nd rfl rfl ⟨rfl, rfl, Or.inl T.gx_GardenError⟩ tk T.ct_GardenError (fun W pn xe tk hp =>
      (pks_one (pks_if (pt_eq hu (pk_varB (pv 5)) (pk_bw pk_int))
        (pks_one (pks_set (fun te h => ps_set (i := 8) S.nd rfl (Or.inl rfl) h) (pk_f c_kept tk (hr.mono (by decide)) (pka_cons (pk_var (pv 0)) (pka_cons (pk_var (pv 7)) pka_nil)))))
        (pks_one (pks_if (pt_eq hu (pk_varB (pv 4)) (pk_bw pk_int))
          (pks_one (pks_set (fun te h => ps_set (i := 8) S.nd rfl (Or.inl rfl) h) (pk_f c_followed_1 tk (hr.mono (by decide)) (pka_cons (pk_var (pv 0)) (pka_cons (pk_var (pv 7)) (pka_cons (pk_var (pv 3)) pka_nil))))))
          (pks_one (pks_set (fun te h => ps_set (i := 8) S.nd rfl (Or.inl rfl) h) (pk_f c_followed tk (hr.mono (by decide)) (pka_cons (pk_var (pv 0)) (pka_cons (pk_var (pv 7)) (pka_cons (pk_var (pv 3)) (pka_cons (pk_var (pv 4)) pka_nil)))))))))))) (fun a y d B' F' pn hot xr =>
      (pks_cons (pks_set (fun te h => ps_set (i := 10) S.nd rfl (Or.inl rfl) h) (pk_callE ce_law_refusal hot (fun _ => rfl) xr takesF (roomS (hr.mono (by decide))) (pv 9)))
      (pks_one (pks_ret (pk_and2 (pk_bw (pk_eq hu (pk_varB (pv 7)) (pk_varB (pv 2)))) (pk_and2 (pk_bw (pk_notN (pk_varB (pv 10)) (pk_bw pk_non))) (pk_one (pk_eq hu (pk_varB (pv 10)) (pk_bw (pk_if (pt_eq hu (pk_bw (pk_ix (fun _ _ => rfl) (pk_varB (pv 6)) (pk_bw pk_int))) (pk_bw pk_str)) (pk_var (pv 6)) (pk_tup (pka_cons (pk_ix (fun _ _ => rfl) (pk_varB (pv 6)) (pk_bw pk_int)) (pka_cons (pk_neg (pk_bw pk_int)) pka_nil))))))))))))))
    (pks_cons (pks_if (PW.pt (pkw_or (pt_eq hu (pk_bw (pk_ix (fun _ _ => rfl) (pk_varB (pv 6)) (pk_bw pk_int))) (pk_bw pk_str)) (pkw_or (pt_eq hu (pk_bw (pk_ix (fun _ _ => rfl) (pk_varB (pv 6)) (pk_bw pk_int))) (pk_bw pk_str)) (pkw_or1 (pt_ne hu (pk_varB (pv 7)) (pk_varB (pv 2)))))))
      (pks_one (pks_ret pk_bl))
      pks_nil)
    (pks_one (pks_ret (pk_and2 (pk_bw (pk_is T.cf is_tuple (.ty "tuple") T.b_isinstance rfl (pe_bltn rfl T.b_tuple (by decide +kernel) rfl) (pk_varB (pv 8)))) (pk_and2 (pk_bw (pk_is T.cf is_bool (.ty "bool") T.b_isinstance rfl (pe_bltn rfl T.b_bool (by decide +kernel) rfl) (pk_bw (pk_ix (fun _ _ => rfl) (pk_varB (pv 8)) (pk_bw pk_int))))) (pk_one (pk_eq hu (pk_bw (pk_strU hgd hu T.b_str rfl (pka_cons (pk_varB (pv 8)) pka_nil))) (pk_bw (pk_strU hgd hu T.b_str rfl (pka_cons (pk_bw (pk_f c_law_told tk (hr.mono (by decide)) (pka_cons (pk_var (pv 6)) pka_nil))) pka_nil)))))))))))))
theorem sc_law_draw : FnScope ["_law_cell", "_law_k", "_law_many", "_law_primes", "_law_blend"] ["_law_cell", "_law_k", "_law_many"] (defScope s_law_draw) := ⟨rfl, rfl, rfl, by decide +kernel, rfl, by decide +kernel, by decide +kernel⟩
theorem ok_law_draw {f : Addr} {fd : FuncData} (F : Fun K "_law_draw" "_law_draw" s_law_draw f fd) (T : Txt K mg A Z)  : FnOk P w K mg base (L2N.CX P w) 1 f fd ["_law_cell", "_law_k", "_law_many"] (spD K A 3 m_law_draw) :=
  fnD F sc_law_draw fun cdv A' outer s H F0 E hr => by
    have S := sc_law_draw
    have tk : L2N.Takes (cxOf (L2N.CX P w) P w K mg base ["_law_cell", "_law_k", "_law_many", "_law_primes", "_law_blend"] "_law_draw" (defScope s_law_draw) f cdv A' outer s H E) (fxOf A H F0 E).W := L2N.takes_of rfl rfl rfl rfl
    have hp : PassesOwn (model P w) (A'.deeper (envOfC "_law_draw" (defScope s_law_draw) s.heap.objs.size f cdv)) (envOfC "_law_draw" (defScope s_law_draw) s.heap.objs.size f cdv) (cxOf (L2N.CX P w) P w K mg base ["_law_cell", "_law_k", "_law_many", "_law_primes", "_law_blend"] "_law_draw" (defScope s_law_draw) f cdv A' outer s H E).xe := passes_of rfl
    have hu := hr.units
    have hu5 := hu65 hr
    exact (pks_cons (pks_set (fun te h => ps_set (i := 3) S.nd rfl (Or.inl rfl) h) (pk_tup (pka_cons pk_int (pka_cons pk_int (pka_cons pk_int (pka_cons pk_int (pka_cons pk_int (pka_cons pk_int (pka_cons pk_int (pka_cons pk_int pka_nil))))))))))
    (pks_cons (pks_set (fun te h => ps_set (i := 4) S.nd rfl (Or.inl rfl) h) (pk_addU (pk_bw (pk_addU (pk_bw (pk_mulU (pk_varB (pv 0)) (pk_bw pk_int))) (pk_bw (pk_mulU (pk_varB (pv 1)) (pk_bw pk_int))))) (pk_bw (pk_mulU (pk_bw (pk_mod (pk_bw (pk_div (pk_varB (pv 0)) (pk_bw pk_int))) (pk_bw pk_int))) (pk_bw pk_int)))))
    (pks_one (pks_ret (pk_mod (pk_bw (pk_mod (pk_varB (pv 4)) (pk_bw (pk_ix (fun _ _ => rfl) (pk_varB (pv 3)) (pk_bw (pk_mod (pk_varB (pv 1)) (pk_bw pk_int))))))) (pk_varB (pv 2)))))))
theorem sc_law_steps : FnScope ["_law_spec_here", "_law_state", "_law_found", "_law_chosen", "_law_wet", "_law_ahead", "_law_k"] ["_law_spec_here", "_law_state"] (defScope s_law_steps) := ⟨rfl, rfl, rfl, by decide +kernel, rfl, by decide +kernel, by decide +kernel⟩
theorem ok_law_steps {f : Addr} {fd : FuncData} (F : Fun K "_law_steps" "_law_steps" s_law_steps f fd) (T : Txt K mg A Z) (c_law_behind : Cal P w K mg base A 1 "_law_behind" 3 m_law_behind []) : FnOk P w K mg base (L2N.CX P w) 2 f fd ["_law_spec_here", "_law_state"] (spD K A 2 m_law_steps) :=
  fnD F sc_law_steps fun cdv A' outer s H F0 E hr => by
    have S := sc_law_steps
    have tk : L2N.Takes (cxOf (L2N.CX P w) P w K mg base ["_law_spec_here", "_law_state", "_law_found", "_law_chosen", "_law_wet", "_law_ahead", "_law_k"] "_law_steps" (defScope s_law_steps) f cdv A' outer s H E) (fxOf A H F0 E).W := L2N.takes_of rfl rfl rfl rfl
    have hp : PassesOwn (model P w) (A'.deeper (envOfC "_law_steps" (defScope s_law_steps) s.heap.objs.size f cdv)) (envOfC "_law_steps" (defScope s_law_steps) s.heap.objs.size f cdv) (cxOf (L2N.CX P w) P w K mg base ["_law_spec_here", "_law_state", "_law_found", "_law_chosen", "_law_wet", "_law_ahead", "_law_k"] "_law_steps" (defScope s_law_steps) f cdv A' outer s H E).xe := passes_of rfl
    have hu := hr.units
    have hu5 := hu65 hr
    exact (pks_cons (pks_setO (fun te h => ps_set (i := 2) S.nd rfl (Or.inl rfl) h) (pk_lst (k := .ow) pka_nil))
    (pks_cons (pks_for hp rfl (pid_range1 T.b_range rfl (pka_cons (pk_bw (pk_shl (pk_bw pk_int) (pk_bw (pk_len T.b_len rfl (pka_cons (pk_bw (pk_ix (fun _ _ => rfl) (pk_varB (pv 0)) (pk_bw pk_int))) pka_nil))))) pka_nil)) (pgd_name (pg_name (i := 3) S.nd rfl (Or.inr rfl)))
      (pks_cons (pks_setLc (i := 4) (by decide) (ps_setLc (i := 4) (own := [("_law_k", 6)]) rfl S.nd rfl rfl (sw_true rfl rfl rfl (by decide +kernel)) (pid_range1 T.b_range rfl (pka_cons (pk_bw (pk_len T.b_len rfl (pka_cons (pk_bw (pk_ix (fun _ _ => rfl) (pk_varB (pv 0)) (pk_bw pk_int))) pka_nil))) pka_nil)) (blkOk_by (own := [("_law_k", 6)]) (N := ["_law_spec_here", "_law_state", "_law_found", "_law_chosen", "_law_wet", "_law_ahead", "_law_k"]) (sc := defScope s_law_steps) (by decide +kernel)) (fun _ _ _ _ _ => (pgd_name (pg_name (i := 6) S.nd rfl (Or.inl rfl)))) (fun _ _ _ _ _ => (ptsd_one (pt_eq hu (pk_bw (pk_and (pk_bw (pk_shr (pk_varB (pv 3)) (pk_varB (pv 6)))) (pk_bw pk_int))) (pk_bw pk_int)))) (fun _ _ _ _ _ => (pk_var (pv 6)))))
      (pks_cons (pks_set (fun te h => ps_set (i := 5) S.nd rfl (Or.inl rfl) h) (pk_f c_law_behind tk (hr.mono (by decide)) (pka_cons (pk_var (pv 0)) (pka_cons (pk_var (pv 1)) (pka_cons (pk_var (pv 4)) pka_nil)))))
      (pks_one (pks_if (pt_b (pk_bw (pk_is T.cf is_tuple (.ty "tuple") T.b_isinstance rfl (pe_bltn rfl T.b_tuple (by decide +kernel) rfl) (pk_varB (pv 5)))))
        (pks_one (pks_app (fun te ta h ha => ps_expr (pe_bm PySem.F.plainAttrs_list PySem.F.slot_list_append PySem.F.type_list_append mt_append h ha)) (pv 2) (pk_tup (pka_cons (pk_var (pv 3)) (pka_cons (pk_var (pv 5)) pka_nil)))))
        pks_nil)))))
    (pks_one (pks_retV (pv 2)))))
theorem sc_law_rows : FnScope ["_law_spec_here", "_law_script", "_law_first", "_law_many", "_law_wild", "_law_names", "_law_state", "_law_rows_here", "_law_at", "_law_cell", "_law_steps_here", "_law_row", "_law_chosen", "_law_odd", "_law_name", "_law_gap", "_law_rest", "_law_k"] ["_law_spec_here", "_law_script", "_law_first", "_law_many", "_law_wild"] (defScope s_law_rows) := ⟨rfl, rfl, rfl, by decide +kernel, rfl, by decide +kernel, by decide +kernel⟩
theorem ok_law_rows {f : Addr} {fd : FuncData} (F : Fun K "_law_rows" "_law_rows" s_law_rows f fd) (T : Txt K mg A Z) (c_law_cell_at : Cal P w K mg base A 1 "_law_cell_at" 2 m_law_cell_at []) (c_law_draw : Cal P w K mg base A 1 "_law_draw" 3 m_law_draw []) (c_law_steps : Cal P w K mg base A 2 "_law_steps" 2 m_law_steps []) : FnOk P w K mg base (L2N.CX P w) 3 f fd ["_law_spec_here", "_law_script", "_law_first", "_law_many", "_law_wild"] (spD K A 5 m_law_rows) :=
  fnD F sc_law_rows fun cdv A' outer s H F0 E hr => by
    have S := sc_law_rows
    have tk : L2N.Takes (cxOf (L2N.CX P w) P w K mg base ["_law_spec_here", "_law_script", "_law_first", "_law_many", "_law_wild", "_law_names", "_law_state", "_law_rows_here", "_law_at", "_law_cell", "_law_steps_here", "_law_row", "_law_chosen", "_law_odd", "_law_name", "_law_gap", "_law_rest", "_law_k"] "_law_rows" (defScope s_law_rows) f cdv A' outer s H E) (fxOf A H F0 E).W := L2N.takes_of rfl rfl rfl rfl
    have hp : PassesOwn (model P w) (A'.deeper (envOfC "_law_rows" (defScope s_law_rows) s.heap.objs.size f cdv)) (envOfC "_law_rows" (defScope s_law_rows) s.heap.objs.size f cdv) (cxOf (L2N.CX P w) P w K mg base ["_law_spec_here", "_law_script", "_law_first", "_law_many", "_law_wild", "_law_names", "_law_state", "_law_rows_here", "_law_at", "_law_cell", "_law_steps_here", "_law_row", "_law_chosen", "_law_odd", "_law_name", "_law_gap", "_law_rest", "_law_k"] "_law_rows" (defScope s_law_rows) f cdv A' outer s H E).xe := passes_of rfl
    have hu := hr.units
    have hu5 := hu65 hr
    exact (pks_cons (pks_set (fun te h => ps_set (i := 5) S.nd rfl (Or.inr rfl) h) (pk_lc (k := .fz) (by decide) (by decide) (pe_lc (own := [("_law_name", 14), ("_law_gap", 15), ("_law_rest", 16)]) rfl S.nd (pid_list (pk_ix (fun _ _ => rfl) (pk_varB (pv 0)) (pk_bw pk_int))) (blkOk_by (own := [("_law_name", 14), ("_law_gap", 15), ("_law_rest", 16)]) (N := ["_law_spec_here", "_law_script", "_law_first", "_law_many", "_law_wild", "_law_names", "_law_state", "_law_rows_here", "_law_at", "_law_cell", "_law_steps_here", "_law_row", "_law_chosen", "_law_odd", "_law_name", "_law_gap", "_law_rest", "_law_k"]) (sc := defScope s_law_rows) (by decide +kernel)) (fun _ _ _ _ _ => (pgd_tup rfl (pgsd_cons (pgd_name (pg_name (i := 14) S.nd rfl (Or.inl rfl))) (pgsd_cons (pgd_name (pg_name (i := 15) S.nd rfl (Or.inl rfl))) (pgsd_cons (pgd_name (pg_name (i := 16) S.nd rfl (Or.inl rfl))) pgsd_nil))))) (fun _ _ _ _ _ => ptsd_nil) (fun _ _ _ _ _ => (pk_var (pv 14))))))
    (pks_cons (pks_set (fun te h => ps_set (i := 6) S.nd rfl (Or.inl rfl) h) (pk_tup (pka_cons pk_int (pka_cons (pk_tuple T.b_tuple rfl (pka_cons (pk_bw (pk_lc (k := .fz) (by decide) (by decide) (pe_lc (own := [("_law_name", 14)]) rfl S.nd (pid_list (pk_var (pv 5))) (blkOk_by (own := [("_law_name", 14)]) (N := ["_law_spec_here", "_law_script", "_law_first", "_law_many", "_law_wild", "_law_names", "_law_state", "_law_rows_here", "_law_at", "_law_cell", "_law_steps_here", "_law_row", "_law_chosen", "_law_odd", "_law_name", "_law_gap", "_law_rest", "_law_k"]) (sc := defScope s_law_rows) (by decide +kernel)) (fun _ _ _ _ _ => (pgd_name (pg_name (i := 14) S.nd rfl (Or.inl rfl)))) (fun _ _ _ _ _ => ptsd_nil) (fun _ _ _ _ _ => pk_int)))) pka_nil)) pka_nil))))
    (pks_cons (pks_setO (fun te h => ps_set (i := 7) S.nd rfl (Or.inl rfl) h) (pk_lst (k := .ow) pka_nil))
    (pks_cons (pks_for hp rfl (pid_range1 T.b_range rfl (pka_cons (pk_varB (pv 3)) pka_nil)) (pgd_name (pg_name (i := 8) S.nd rfl (Or.inl rfl)))
      (pks_cons (pks_set (fun te h => ps_set (i := 9) S.nd rfl (Or.inr rfl) h) (pk_addU (pk_bw (pk_f c_law_cell_at tk (hr.mono (by decide)) (pka_cons (pk_var (pv 1)) (pka_cons (pk_addU (pk_varB (pv 2)) (pk_varB (pv 8))) pka_nil)))) (pk_bw (pk_mulU (pk_bw pk_int) (pk_varB (pv 8))))))
      (pks_cons (pks_set (fun te h => ps_set (i := 10) S.nd rfl (Or.inl rfl) h) (pk_f c_law_steps tk (hr.mono (by decide)) (pka_cons (pk_var (pv 0)) (pka_cons (pk_var (pv 6)) pka_nil))))
      (pks_cons (pks_set (fun te h => ps_set (i := 11) S.nd rfl (Or.inl rfl) h) (pk_slU (pk_bw (pk_lc (k := .fz) (by decide) (by decide) (pe_lc (own := [("_law_name", 14)]) rfl S.nd (pid_list (pk_var (pv 5))) (blkOk_by (own := [("_law_name", 14)]) (N := ["_law_spec_here", "_law_script", "_law_first", "_law_many", "_law_wild", "_law_names", "_law_state", "_law_rows_here", "_law_at", "_law_cell", "_law_steps_here", "_law_row", "_law_chosen", "_law_odd", "_law_name", "_law_gap", "_law_rest", "_law_k"]) (sc := defScope s_law_rows) (by decide +kernel)) (fun _ _ _ _ _ => (pgd_name (pg_name (i := 14) S.nd rfl (Or.inl rfl)))) (fun _ _ _ _ _ => (ptsd_one (pt_eq hu (pk_bw (pk_f c_law_draw takes0 (hr.mono (by decide)) (pka_cons (pk_var (pv 9)) (pka_cons (pk_len T.b_len rfl (pka_cons (pk_varB (pv 14)) pka_nil)) (pka_cons pk_int pka_nil))))) (pk_bw pk_int)))) (fun _ _ _ _ _ => (pk_var (pv 14)))))) pkp_none (pkp_some (pk_bw pk_int))))
      (pks_cons (pks_if (PW.pt (pkw_and (pt_ne hu (pk_varB (pv 10)) (pk_bw (pk_lst (k := .fz) pka_nil))) (pkw_and1 (pt_gt (pk_bw (pk_f c_law_draw tk (hr.mono (by decide)) (pka_cons (pk_var (pv 9)) (pka_cons pk_int (pka_cons pk_int pka_nil))))) (pk_bw pk_int)))))
        (pks_cons (pks_unp (fun te g h hg => ps_asg h hg) (pk_ix (fun _ _ => rfl) (pk_varB (pv 10)) (pk_bw (pk_f c_law_draw tk (hr.mono (by decide)) (pka_cons (pk_var (pv 9)) (pka_cons pk_int (pka_cons (pk_len T.b_len rfl (pka_cons (pk_varB (pv 10)) pka_nil)) pka_nil)))))) (pgd_tup rfl (pgsd_cons (pgd_name (pg_name (i := 12) S.nd rfl (Or.inr rfl))) (pgsd_cons (pgd_name (pg_name (i := 6) S.nd rfl (Or.inl rfl))) pgsd_nil))))
        (pks_one (pks_setLc (i := 11) (by decide) (ps_setLc (i := 11) (own := [("_law_k", 17)]) rfl S.nd rfl rfl (sw_true rfl rfl rfl (by decide +kernel)) (pid_range1 T.b_range rfl (pka_cons (pk_bw (pk_len T.b_len rfl (pka_cons (pk_varB (pv 5)) pka_nil))) pka_nil)) (blkOk_by (own := [("_law_k", 17)]) (N := ["_law_spec_here", "_law_script", "_law_first", "_law_many", "_law_wild", "_law_names", "_law_state", "_law_rows_here", "_law_at", "_law_cell", "_law_steps_here", "_law_row", "_law_chosen", "_law_odd", "_law_name", "_law_gap", "_law_rest", "_law_k"]) (sc := defScope s_law_rows) (by decide +kernel)) (fun _ _ _ _ _ => (pgd_name (pg_name (i := 17) S.nd rfl (Or.inl rfl)))) (fun _ _ _ _ _ => (ptsd_one (pt_eq hu (pk_bw (pk_and (pk_bw (pk_shr (pk_varB (pv 12)) (pk_varB (pv 17)))) (pk_bw pk_int))) (pk_bw pk_int)))) (fun _ _ _ _ _ => (pk_ix (fun _ _ => rfl) (pk_varB (pv 5)) (pk_varB (pv 17))))))))
        pks_nil)
      (pks_cons (pks_if (PW.pt (pkw_and (pt_b (pk_varB (pv 4))) (pkw_and1 (pt_eq hu (pk_bw (pk_f c_law_draw tk (hr.mono (by decide)) (pka_cons (pk_var (pv 9)) (pka_cons pk_int (pka_cons pk_int pka_nil))))) (pk_bw pk_int)))))
        (pks_cons (pks_set (fun te h => ps_set (i := 13) S.nd rfl (Or.inl rfl) h) (pk_lst (k := .fz) (pka_cons (pk_lst (k := .fz) (pka_cons (pk_ix (fun _ _ => rfl) (pk_varB (pv 5)) (pk_bw pk_int)) pka_nil)) (pka_cons (pk_lst (k := .fz) (pka_cons pk_str pka_nil)) (pka_cons (pk_lst (k := .fz) (pka_cons (pk_ix (fun _ _ => rfl) (pk_varB (pv 5)) (pk_bw pk_int)) (pka_cons (pk_ix (fun _ _ => rfl) (pk_varB (pv 5)) (pk_bw pk_int)) (pka_cons pk_str pka_nil)))) (pka_cons (pk_lst (k := .fz) (pka_cons pk_non pka_nil)) (pka_cons (pk_lst (k := .fz) (pka_cons pk_int pka_nil)) (pka_cons (pk_lst (k := .fz) (pka_cons (pk_lst (k := .fz) (pka_cons pk_str pka_nil)) pka_nil)) (pka_cons (pk_lst (k := .fz) (pka_cons pk_str pka_nil)) (pka_cons (pk_lst (k := .fz) (pka_cons pk_str pka_nil)) pka_nil))))))))))
        (pks_one (pks_set (fun te h => ps_set (i := 11) S.nd rfl (Or.inl rfl) h) (pk_addU (pk_varB (pv 11)) (pk_bw (pk_ix (fun _ _ => rfl) (pk_varB (pv 13)) (pk_bw (pk_f c_law_draw tk (hr.mono (by decide)) (pka_cons (pk_var (pv 9)) (pka_cons pk_int (pka_cons pk_int pka_nil)))))))))))
        pks_nil)
      (pks_one (pks_app (fun te ta h ha => ps_expr (pe_bm PySem.F.plainAttrs_list PySem.F.slot_list_append PySem.F.type_list_append mt_append h ha)) (pv 7) (pk_if (pt_eq hu (pk_bw (pk_mod (pk_varB (pv 9)) (pk_bw pk_int))) (pk_bw pk_int)) (pk_rev (k := .fz) (pk_varB (pv 11))) (pk_var (pv 11)))))))))))
    (pks_one (pks_retV (pv 7)))))))
theorem sc_law_spec : FnScope ["_law_script", "_law_first", "_law_cell", "_law_other", "_law_third", "_law_count", "_law_most", "_law_names", "_law_pots", "_law_k", "_law_gap", "_law_rest", "_law_week", "_law_closed"] ["_law_script", "_law_first"] (defScope s_law_spec) := ⟨rfl, rfl, rfl, by decide +kernel, rfl, by decide +kernel, by decide +kernel⟩
theorem ok_law_spec {f : Addr} {fd : FuncData} (F : Fun K "_law_spec" "_law_spec" s_law_spec f fd) (T : Txt K mg A Z) (c_law_cell_at : Cal P w K mg base A 1 "_law_cell_at" 2 m_law_cell_at []) (c_law_draw : Cal P w K mg base A 1 "_law_draw" 3 m_law_draw []) : FnOk P w K mg base (L2N.CX P w) 2 f fd ["_law_script", "_law_first"] (spD K A 2 m_law_spec) :=
  fnD F sc_law_spec fun cdv A' outer s H F0 E hr => by
    have S := sc_law_spec
    have tk : L2N.Takes (cxOf (L2N.CX P w) P w K mg base ["_law_script", "_law_first", "_law_cell", "_law_other", "_law_third", "_law_count", "_law_most", "_law_names", "_law_pots", "_law_k", "_law_gap", "_law_rest", "_law_week", "_law_closed"] "_law_spec" (defScope s_law_spec) f cdv A' outer s H E) (fxOf A H F0 E).W := L2N.takes_of rfl rfl rfl rfl
    have hp : PassesOwn (model P w) (A'.deeper (envOfC "_law_spec" (defScope s_law_spec) s.heap.objs.size f cdv)) (envOfC "_law_spec" (defScope s_law_spec) s.heap.objs.size f cdv) (cxOf (L2N.CX P w) P w K mg base ["_law_script", "_law_first", "_law_cell", "_law_other", "_law_third", "_law_count", "_law_most", "_law_names", "_law_pots", "_law_k", "_law_gap", "_law_rest", "_law_week", "_law_closed"] "_law_spec" (defScope s_law_spec) f cdv A' outer s H E).xe := passes_of rfl
    have hu := hr.units
    have hu5 := hu65 hr
    exact (pks_cons (pks_set (fun te h => ps_set (i := 2) S.nd rfl (Or.inl rfl) h) (pk_f c_law_cell_at tk (hr.mono (by decide)) (pka_cons (pk_var (pv 0)) (pka_cons (pk_var (pv 1)) pka_nil))))
    (pks_cons (pks_set (fun te h => ps_set (i := 3) S.nd rfl (Or.inl rfl) h) (pk_f c_law_cell_at tk (hr.mono (by decide)) (pka_cons (pk_var (pv 0)) (pka_cons (pk_addU (pk_varB (pv 1)) (pk_bw pk_int)) pka_nil))))
    (pks_cons (pks_set (fun te h => ps_set (i := 4) S.nd rfl (Or.inl rfl) h) (pk_f c_law_cell_at tk (hr.mono (by decide)) (pka_cons (pk_var (pv 0)) (pka_cons (pk_addU (pk_varB (pv 1)) (pk_bw pk_int)) pka_nil))))
    (pks_cons (pks_set (fun te h => ps_set (i := 5) S.nd rfl (Or.inl rfl) h) (pk_addU (pk_bw pk_int) (pk_bw (pk_mod (pk_varB (pv 2)) (pk_bw pk_int)))))
    (pks_cons (pks_set (fun te h => ps_set (i := 6) S.nd rfl (Or.inl rfl) h) pk_int)
    (pks_cons (pks_if (PW.pt (pkw_and (pt_eq hu (pk_varB (pv 5)) (pk_bw pk_int)) (pkw_and1 (pt_gt (pk_bw (pk_mod (pk_bw (pk_div (pk_varB (pv 2)) (pk_bw pk_int))) (pk_bw pk_int))) (pk_bw pk_int)))))
      (pks_one (pks_set (fun te h => ps_set (i := 6) S.nd rfl (Or.inl rfl) h) pk_int))
      pks_nil)
    (pks_cons (pks_if (pt_eq hu (pk_bw (pk_mod (pk_bw (pk_div (pk_varB (pv 2)) (pk_bw pk_int))) (pk_bw pk_int))) (pk_bw pk_int))
      (pks_cons (pks_set (fun te h => ps_set (i := 5) S.nd rfl (Or.inl rfl) h) pk_int)
      (pks_one (pks_set (fun te h => ps_set (i := 6) S.nd rfl (Or.inl rfl) h) pk_int)))
      pks_nil)
    (pks_cons (pks_set (fun te h => ps_set (i := 7) S.nd rfl (Or.inl rfl) h) (pk_tup (pka_cons pk_str (pka_cons pk_str (pka_cons pk_str (pka_cons pk_str (pka_cons pk_str pka_nil)))))))
    (pks_cons (pks_setO (fun te h => ps_set (i := 8) S.nd rfl (Or.inl rfl) h) (pk_lst (k := .ow) pka_nil))
    (pks_cons (pks_for hp rfl (pid_range1 T.b_range rfl (pka_cons (pk_varB (pv 5)) pka_nil)) (pgd_name (pg_name (i := 9) S.nd rfl (Or.inl rfl)))
      (pks_cons (pks_set (fun te h => ps_set (i := 10) S.nd rfl (Or.inl rfl) h) (pk_addU (pk_bw pk_int) (pk_bw (pk_f c_law_draw tk (hr.mono (by decide)) (pka_cons (pk_var (pv 3)) (pka_cons (pk_var (pv 9)) (pka_cons (pk_var (pv 6)) pka_nil)))))))
      (pks_cons (pks_set (fun te h => ps_set (i := 11) S.nd rfl (Or.inl rfl) h) (pk_neg (pk_bw pk_int)))
      (pks_cons (pks_if (pt_eq hu (pk_bw (pk_f c_law_draw tk (hr.mono (by decide)) (pka_cons (pk_var (pv 3)) (pka_cons (pk_addU (pk_varB (pv 9)) (pk_bw pk_int)) (pka_cons pk_int pka_nil))))) (pk_bw pk_int))
        (pks_one (pks_set (fun te h => ps_set (i := 11) S.nd rfl (Or.inl rfl) h) (pk_f c_law_draw tk (hr.mono (by decide)) (pka_cons (pk_var (pv 3)) (pka_cons (pk_addU (pk_varB (pv 9)) (pk_bw pk_int)) (pka_cons (pk_var (pv 10)) pka_nil))))))
        pks_nil)
      (pks_one (pks_app (fun te ta h ha => ps_expr (pe_bm PySem.F.plainAttrs_list PySem.F.slot_list_append PySem.F.type_list_append mt_append h ha)) (pv 8) (pk_tup (pka_cons (pk_ix (fun _ _ => rfl) (pk_varB (pv 7)) (pk_bw (pk_mod (pk_bw (pk_addU (pk_bw (pk_div (pk_varB (pv 2)) (pk_bw pk_int))) (pk_varB (pv 9)))) (pk_bw pk_int)))) (pka_cons (pk_var (pv 10)) (pka_cons (pk_var (pv 11)) pka_nil))))))))))
    (pks_cons (pks_set (fun te h => ps_set (i := 12) S.nd rfl (Or.inl rfl) h) (pk_addU (pk_bw pk_int) (pk_bw (pk_int1 T.b_int rfl (pka_cons (pk_bw (pk_eq hu (pk_bw (pk_mod (pk_varB (pv 4)) (pk_bw pk_int))) (pk_bw pk_int))) pka_nil)))))
    (pks_cons (pks_if (pt_eq hu (pk_bw (pk_mod (pk_bw (pk_div (pk_varB (pv 4)) (pk_bw pk_int))) (pk_bw pk_int))) (pk_bw pk_int))
      (pks_one (pks_set (fun te h => ps_set (i := 12) S.nd rfl (Or.inl rfl) h) (pk_addU (pk_bw pk_int) (pk_bw (pk_mod (pk_bw (pk_div (pk_varB (pv 4)) (pk_bw pk_int))) (pk_bw pk_int))))))
      pks_nil)
    (pks_cons (pks_if (pt_eq hu (pk_bw (pk_mod (pk_bw (pk_div (pk_varB (pv 2)) (pk_bw pk_int))) (pk_bw pk_int))) (pk_bw pk_int))
      (pks_one (pks_set (fun te h => ps_set (i := 12) S.nd rfl (Or.inl rfl) h) (pk_addU (pk_bw pk_int) (pk_bw (pk_mod (pk_varB (pv 4)) (pk_bw pk_int))))))
      pks_nil)
    (pks_cons (pks_set (fun te h => ps_set (i := 13) S.nd rfl (Or.inl rfl) h) pk_int)
    (pks_cons (pks_if (pt_eq hu (pk_bw (pk_mod (pk_bw (pk_div (pk_varB (pv 4)) (pk_bw pk_int))) (pk_bw pk_int))) (pk_bw pk_int))
      (pks_one (pks_set (fun te h => ps_set (i := 13) S.nd rfl (Or.inl rfl) h) (pk_mod (pk_bw (pk_div (pk_varB (pv 4)) (pk_bw pk_int))) (pk_bw (pk_shl (pk_bw pk_int) (pk_varB (pv 12)))))))
      pks_nil)
    (pks_one (pks_frz (i := 8) (pks_ret (pk_tup (pka_cons (pk_var (pv 8)) (pka_cons (pk_ix (fun _ _ => rfl) (pk_bw (pk_tup (pka_cons pk_int (pka_cons pk_int (pka_cons pk_int (pka_cons pk_int (pka_cons pk_int (pka_cons pk_int pka_nil)))))))) (pk_bw (pk_mod (pk_bw (pk_div (pk_varB (pv 4)) (pk_bw pk_int))) (pk_bw pk_int)))) (pka_cons (pk_var (pv 12)) (pka_cons (pk_var (pv 13)) pka_nil)))))))))))))))))))))))
theorem sc_law_states : FnScope ["_law_spec_here", "_law_found", "_law_name", "_law_gap", "_law_rest", "_law_longer", "_law_since", "_law_states_here", "_law_day", "_law_far"] ["_law_spec_here"] (defScope s_law_states) := ⟨rfl, rfl, rfl, by decide +kernel, rfl, by decide +kernel, by decide +kernel⟩
theorem ok_law_states {f : Addr} {fd : FuncData} (F : Fun K "_law_states" "_law_states" s_law_states f fd) (T : Txt K mg A Z)  : FnOk P w K mg base (L2N.CX P w) 1 f fd ["_law_spec_here"] (spD K A 1 m_law_states) :=
  fnD F sc_law_states fun cdv A' outer s H F0 E hr => by
    have S := sc_law_states
    have tk : L2N.Takes (cxOf (L2N.CX P w) P w K mg base ["_law_spec_here", "_law_found", "_law_name", "_law_gap", "_law_rest", "_law_longer", "_law_since", "_law_states_here", "_law_day", "_law_far"] "_law_states" (defScope s_law_states) f cdv A' outer s H E) (fxOf A H F0 E).W := L2N.takes_of rfl rfl rfl rfl
    have hp : PassesOwn (model P w) (A'.deeper (envOfC "_law_states" (defScope s_law_states) s.heap.objs.size f cdv)) (envOfC "_law_states" (defScope s_law_states) s.heap.objs.size f cdv) (cxOf (L2N.CX P w) P w K mg base ["_law_spec_here", "_law_found", "_law_name", "_law_gap", "_law_rest", "_law_longer", "_law_since", "_law_states_here", "_law_day", "_law_far"] "_law_states" (defScope s_law_states) f cdv A' outer s H E).xe := passes_of rfl
    have hu := hr.units
    have hu5 := hu65 hr
    exact (pks_cons (pks_setO (fun te h => ps_set (i := 1) S.nd rfl (Or.inl rfl) h) (pk_lst (k := .ow) (pka_cons (pk_tup pka_nil) pka_nil)))
    (pks_cons (pks_for hp rfl (pid_list (pk_ix (fun _ _ => rfl) (pk_varB (pv 0)) (pk_bw pk_int))) (pgd_tup rfl (pgsd_cons (pgd_name (pg_name (i := 2) S.nd rfl (Or.inl rfl))) (pgsd_cons (pgd_name (pg_name (i := 3) S.nd rfl (Or.inl rfl))) (pgsd_cons (pgd_name (pg_name (i := 4) S.nd rfl (Or.inl rfl))) pgsd_nil))))
      (pks_cons (pks_setO (fun te h => ps_set (i := 5) S.nd rfl (Or.inl rfl) h) (pk_lst (k := .ow) pka_nil))
      (pks_cons (pks_frz (i := 1) (pks_for hp rfl (pid_list (pk_var (pv 1))) (pgd_name (pg_name (i := 6) S.nd rfl (Or.inr rfl)))
        (pks_one (pks_ext (fun te ta h ha => ps_expr (pe_bm PySem.F.plainAttrs_list PySem.F.slot_list_extend PySem.F.type_list_extend mt_extend h ha)) (pv 5) (pk_bw (pk_lc (k := .fz) (by decide) (by decide) (pe_lc (own := [("_law_far", 9)]) rfl S.nd (pid_range1 T.b_range rfl (pka_cons (pk_varB (pv 3)) pka_nil)) (blkOk_by (own := [("_law_far", 9)]) (N := ["_law_spec_here", "_law_found", "_law_name", "_law_gap", "_law_rest", "_law_longer", "_law_since", "_law_states_here", "_law_day", "_law_far"]) (sc := defScope s_law_states) (by decide +kernel)) (fun _ _ _ _ _ => (pgd_name (pg_name (i := 9) S.nd rfl (Or.inl rfl)))) (fun _ _ _ _ _ => ptsd_nil) (fun _ _ _ _ _ => (pk_addU (pk_varB (pv 6)) (pk_bw (pk_tup (pka_cons (pk_var (pv 9)) pka_nil))))))))))))
      (pks_one (pks_move (fun te h => ps_set (i := 1) S.nd rfl (Or.inl rfl) h) (pv 5))))))
    (pks_cons (pks_setO (fun te h => ps_set (i := 7) S.nd rfl (Or.inl rfl) h) (pk_lst (k := .ow) pka_nil))
    (pks_cons (pks_for hp rfl (pid_range1 T.b_range rfl (pka_cons (pk_bw (pk_ix (fun _ _ => rfl) (pk_varB (pv 0)) (pk_bw pk_int))) pka_nil)) (pgd_name (pg_name (i := 8) S.nd rfl (Or.inr rfl)))
      (pks_one (pks_frz (i := 1) (pks_ext (fun te ta h ha => ps_expr (pe_bm PySem.F.plainAttrs_list PySem.F.slot_list_extend PySem.F.type_list_extend mt_extend h ha)) (pv 7) (pk_bw (pk_lc (k := .fz) (by decide) (by decide) (pe_lc (own := [("_law_since", 6)]) rfl S.nd (pid_list (pk_var (pv 1))) (blkOk_by (own := [("_law_since", 6)]) (N := ["_law_spec_here", "_law_found", "_law_name", "_law_gap", "_law_rest", "_law_longer", "_law_since", "_law_states_here", "_law_day", "_law_far"]) (sc := defScope s_law_states) (by decide +kernel)) (fun _ _ _ _ _ => (pgd_name (pg_name (i := 6) S.nd rfl (Or.inl rfl)))) (fun _ _ _ _ _ => ptsd_nil) (fun _ _ _ _ _ => (pk_tup (pka_cons (pk_var (pv 8)) (pka_cons (pk_var (pv 6)) pka_nil)))))))))))
    (pks_one (pks_retV (pv 7)))))))
theorem sc_law : FnScope ["_law_script", "_law_spec_here", "_law_garden_here", "_law_rows_here", "_law_states_here", "_law_state", "_law_first", "_law_many", "_law_two", "_law_error"] ["_law_script"] (defScope s_law) := ⟨rfl, rfl, rfl, by decide +kernel, rfl, by decide +kernel, by decide +kernel⟩
theorem ok_law {f : Addr} {fd : FuncData} (F : Fun K "law" "law" s_law f fd) (T : Txt K mg A Z) (c_followed_1 : Cal P w K mg base A 4 "followed" 4 m_followed [.int 0]) (c_kept : Cal P w K mg base A 5 "kept" 2 m_kept []) (c_law_cell_at : Cal P w K mg base A 1 "_law_cell_at" 2 m_law_cell_at []) (c_law_garden : Cal P w K mg base A 7 "_law_garden" 1 m_law_garden []) (c_law_rows : Cal P w K mg base A 3 "_law_rows" 5 m_law_rows []) (c_law_spec : Cal P w K mg base A 2 "_law_spec" 2 m_law_spec []) (c_law_states : Cal P w K mg base A 1 "_law_states" 1 m_law_states []) (ce_law_sorts : CalE P w K mg base A 1 "_law_sorts" m_law_sorts) (gd_law_right : CalG P w K mg base A 6 "_law_right" 6 m_law_right) : FnG P w K mg base (L2N.CX P w) 8 f fd ["_law_script"] (spD K A 1 m_law) :=
  fnG F sc_law fun cdv A' outer s H F0 E hgd hr => by
    have S := sc_law
    have tk : L2N.Takes (cxOf (L2N.CX P w) P w K mg base ["_law_script", "_law_spec_here", "_law_garden_here", "_law_rows_here", "_law_states_here", "_law_state", "_law_first", "_law_many", "_law_two", "_law_error"] "law" (defScope s_law) f cdv A' outer s H E) (fxOf A H F0 E).W := L2N.takes_of rfl rfl rfl rfl
    have hp : PassesOwn (model P w) (A'.deeper (envOfC "law" (defScope s_law) s.heap.objs.size f cdv)) (envOfC "law" (defScope s_law) s.heap.objs.size f cdv) (cxOf (L2N.CX P w) P w K mg base ["_law_script", "_law_spec_here", "_law_garden_here", "_law_rows_here", "_law_states_here", "_law_state", "_law_first", "_law_many", "_law_two", "_law_error"] "law" (defScope s_law) f cdv A' outer s H E).xe := passes_of rfl
    have hu := hr.units
    have hu5 := hu65 hr
    exact (pks_cons (pks_set (fun te h => ps_set (i := 1) S.nd rfl (Or.inl rfl) h) (pk_f c_law_spec tk (hr.mono (by decide)) (pka_cons (pk_var (pv 0)) (pka_cons pk_int pka_nil))))
    (pks_cons (pks_set (fun te h => ps_set (i := 2) S.nd rfl (Or.inl rfl) h) (pk_f c_law_garden tk (hr.mono (by decide)) (pka_cons (pk_var (pv 1)) pka_nil)))
    (pks_cons (pks_set (fun te h => ps_set (i := 3) S.nd rfl (Or.inl rfl) h) (pk_f c_law_rows tk (hr.mono (by decide)) (pka_cons (pk_var (pv 1)) (pka_cons (pk_var (pv 0)) (pka_cons pk_int (pka_cons (pk_min2 rfl T.b_min rfl (pka_cons (pk_bw pk_int) (pka_cons (pk_bw (pk_max2 rfl T.b_max rfl (pka_cons (pk_bw pk_int) (pka_cons (pk_bw (pk_sub (pk_bw (pk_len T.b_len rfl (pka_cons (pk_varB (pv 0)) pka_nil))) (pk_bw pk_int))) pka_nil)))) pka_nil))) (pka_cons pk_bl pka_nil)))))))
    (pks_cons (pks_set (fun te h => ps_set (i := 4) S.nd rfl (Or.inl rfl) h) (pk_f c_law_states tk (hr.mono (by decide)) (pka_cons (pk_var (pv 1)) pka_nil)))
    (pks_cons (pks_set (fun te h => ps_set (i := 5) S.nd rfl (Or.inl rfl) h) (pk_ix (fun _ _ => rfl) (pk_varB (pv 4)) (pk_bw (pk_mod (pk_bw (pk_f c_law_cell_at tk (hr.mono (by decide)) (pka_cons (pk_var (pv 0)) (pka_cons pk_int pka_nil)))) (pk_bw (pk_len T.b_len rfl (pka_cons (pk_varB (pv 4)) pka_nil)))))))
    (pks_cons (pks_set (fun te h => ps_set (i := 6) S.nd rfl (Or.inl rfl) h) (pk_mulU (pk_bw (pk_mod (pk_bw (pk_f c_law_cell_at tk (hr.mono (by decide)) (pka_cons (pk_var (pv 0)) (pka_cons pk_int pka_nil)))) (pk_bw pk_int))) (pk_bw (pk_mod (pk_bw (pk_div (pk_bw (pk_f c_law_cell_at tk (hr.mono (by decide)) (pka_cons (pk_var (pv 0)) (pka_cons pk_int pka_nil)))) (pk_bw pk_int))) (pk_bw pk_int)))))
    (pks_cons (pks_for hp rfl (pid_list (pk_lst (k := .fz) (pka_cons (pk_len T.b_len rfl (pka_cons (pk_varB (pv 3)) pka_nil)) (pka_cons (pk_div (pk_bw (pk_len T.b_len rfl (pka_cons (pk_varB (pv 3)) pka_nil))) (pk_bw pk_int)) (pka_cons pk_int (pka_cons pk_int pka_nil)))))) (pgd_name (pg_name (i := 7) S.nd rfl (Or.inl rfl)))
      (pks_cons (pks_if (pkt_not (pt_b (pk_bw (pk_gd gd_law_right tk hgd (hr.mono (by decide)) (pka_cons (pk_var (pv 2)) (pka_cons (pk_var (pv 1)) (pka_cons (pk_slU (pk_varB (pv 3)) pkp_none (pkp_some (pk_varB (pv 7)))) (pka_cons (pk_ix (fun _ _ => rfl) (pk_varB (pv 4)) (pk_bw pk_int)) (pka_cons pk_int (pka_cons pk_int pka_nil))))))))))
        (pks_one (pks_ret pk_bl))
        pks_nil)
      (pks_one (pks_if (pkt_not (pt_b (pk_bw (pk_gd gd_law_right tk hgd (hr.mono (by decide)) (pka_cons (pk_var (pv 2)) (pka_cons (pk_var (pv 1)) (pka_cons (pk_slU (pk_varB (pv 3)) pkp_none (pkp_some (pk_varB (pv 7)))) (pka_cons (pk_var (pv 5)) (pka_cons (pk_var (pv 6)) (pka_cons pk_int pka_nil))))))))))
        (pks_one (pks_ret pk_bl))
        pks_nil))))
    (pks_cons (pks_set (fun te h => ps_set (i := 8) S.nd rfl (Or.inl rfl) h) (pk_lst (k := .fz) (pka_cons (pk_tup (pka_cons pk_str (pka_cons pk_int (pka_cons (pk_neg (pk_bw pk_int)) pka_nil)))) (pka_cons (pk_tup (pka_cons pk_str (pka_cons pk_int (pka_cons (pk_neg (pk_bw pk_int)) pka_nil)))) pka_nil))))
    (pks_cons (pks_if (pt_ne hu (pk_bw (pk_f c_kept tk (hr.mono (by decide)) (pka_cons (pk_f c_law_garden tk (hr.mono (by decide)) (pka_cons (pk_tup (pka_cons (pk_var (pv 8)) (pka_cons pk_int (pka_cons pk_int (pka_cons pk_int pka_nil))))) pka_nil)) (pka_cons (pk_lst (k := .fz) (pka_cons (pk_lst (k := .fz) pka_nil) pka_nil)) pka_nil)))) (pk_bw (pk_tup (pka_cons pk_bl (pka_cons pk_int (pka_cons pk_str pka_nil))))))
      (pks_one (pks_ret pk_bl))
      pks_nil)
    (pks_cons (pks_if (pkt_not (pt_b (pk_bw (pk_gd gd_law_right tk hgd (hr.mono (by decide)) (pka_cons (pk_f c_law_garden tk (hr.mono (by decide)) (pka_cons (pk_tup (pka_cons (pk_var (pv 8)) (pka_cons pk_int (pka_cons pk_int (pka_cons pk_int pka_nil))))) pka_nil)) (pka_cons (pk_tup (pka_cons (pk_var (pv 8)) (pka_cons pk_int (pka_cons pk_int (pka_cons pk_int pka_nil))))) (pka_cons (pk_lst (k := .fz) (pka_cons (pk_lst (k := .fz) (pka_cons pk_str (pka_cons pk_str pka_nil))) pka_nil)) (pka_cons (pk_tup (pka_cons pk_int (pka_cons (pk_tup (pka_cons pk_int (pka_cons pk_int pka_nil))) pka_nil))) (pka_cons pk_int (pka_cons pk_int pka_nil))))))))))
      (pks_one (pks_ret pk_bl))
      pks_nil)
    (pks_cons (pks_tryAs (i := 9) (ct := ct_GardenError) rfl rfl S.nd rfl rfl ⟨rfl, rfl, Or.inl T.gx_GardenError⟩ tk T.ct_GardenError (fun W pn xe tk hp =>
      (pks_one (pks_drop (fun te h => ps_expr h) (pk_f c_followed_1 tk (hr.mono (by decide)) (pka_cons (pk_var (pv 2)) (pka_cons (pk_var (pv 3)) (pka_cons (pk_tup (pka_cons (pk_fld T.cf (pk_varB (pv 2))) (pka_cons (pk_ix (fun _ _ => rfl) (pk_varB (pv 5)) (pk_bw pk_int)) pka_nil))) pka_nil))))))) (fun a y d B' F' pn hot xr =>
      (pks_one (pks_ret (pk_and2 (pk_bw (pk_eq hu (pk_bw (pk_callE ce_law_sorts hot (fun _ => rfl) xr takesF (roomS (hr.mono (by decide))) (pv 9))) (pk_bw (pk_addU (pk_bw (pk_mulU (pk_bw (pk_lst (k := .fz) (pka_cons pk_bl pka_nil))) (pk_bw pk_int))) (pk_bw (pk_lst (k := .fz) (pka_cons pk_bl pka_nil))))))) (pk_one (pk_isX T.isE_ValueError hot xr (fun _ => rfl) (.ty "ValueError") T.b_isinstance rfl (pe_bltn rfl T.b_ValueError (by decide +kernel) rfl) (pv 9))))))))
    (pks_one (pks_ret pk_bl)))))))))))))
end
end K06
namespace K06
open PySem PySem.Spec PyProof.Rows L2 Tw
def adOf (CPot CCactus CGarden XBadDay XBadPot XNoPot XNoState XTooMany : Addr) : Ad := ⟨fun z => match z with | .pot => CPot | .cactus => CCactus | .garden => CGarden | .lives => 0, fun z => match z with | .badPot => XBadPot | .tooMany => XTooMany | .noState => XNoState | .noPot => XNoPot | .badRow => 0 | .badDay => XBadDay, fun z => match z with | .pot => true | .cactus => true | .garden => true | .lives => false⟩
def spLaw (K : PySem.W.Frag) : Sp := fun vs H Q _ => ∃ (a : Addr) (ns : List Int), vs = [.ref a] ∧ SqL K H a (ns.map V.int) ∧ ns.length ≤ 63 ∧ ∀ v : V, v = .bl true → ∀ H', Q v H'
set_option maxHeartbeats 0 in
theorem all_mk {l : PySem.W.OpenLaw} {w : World} {K : PySem.W.Frag} {h : Heap} {mg : Str → Option Value} {fa CPot CCactus CGarden XBadDay XBadPot XNoPot XNoState XTooMany XBadRow XGardenError f_law_cell_at f_is_name f_is_whole f_within f_Pot_init f_Cactus_init f_Garden_size f_Garden_init T_Garden_init f_law_garden f_law_sorts f_law_refusal f_law_told f_law_behind f_law_walked f_BadDay_init f_Garden_number f_Cactus_may f_Pot_may f_bits_of f_allowed f_behind f_Garden_place f_chosen_by T_chosen_by f_dry_pot f_followed T_followed f_Garden_fresh f_kept f_law_right f_law_draw f_law_steps f_law_rows f_law_spec f_law_states f_law : Addr} (plain : ∀ ns : List Int, ns.length ≤ 63 → m_law [.scr ns] = some (.ret (.bl true))) (X : K.In h) (G : h.Ns mainGlobals mg) (hfa : mg "law" = some (.ref fa))
    {od_law_cell_at an_law_cell_at od_is_name an_is_name od_is_whole an_is_whole od_within an_within od_Pot_init an_Pot_init od_Cactus_init an_Cactus_init od_Garden_size an_Garden_size od_Garden_init an_Garden_init tod_Garden_init od_law_garden an_law_garden od_law_sorts an_law_sorts od_law_refusal an_law_refusal od_law_told an_law_told od_law_behind an_law_behind od_law_walked an_law_walked od_BadDay_init an_BadDay_init od_Garden_number an_Garden_number od_Cactus_may an_Cactus_may od_Pot_may an_Pot_may od_bits_of an_bits_of od_allowed an_allowed od_behind an_behind od_Garden_place an_Garden_place od_chosen_by an_chosen_by tod_chosen_by od_dry_pot an_dry_pot od_followed an_followed tod_followed od_Garden_fresh an_Garden_fresh od_kept an_kept od_law_right an_law_right od_law_draw an_law_draw od_law_steps an_law_steps od_law_rows an_law_rows od_law_spec an_law_spec od_law_states an_law_states od_law an_law : Option Addr} {sl_law_cell_at sl_is_name sl_is_whole sl_within sl_Pot_init sl_Cactus_init sl_Garden_size sl_Garden_init tsl_Garden_init sl_law_garden sl_law_sorts sl_law_refusal sl_law_told sl_law_behind sl_law_walked sl_BadDay_init sl_Garden_number sl_Cactus_may sl_Pot_may sl_bits_of sl_allowed sl_behind sl_Garden_place sl_chosen_by tsl_chosen_by sl_dry_pot sl_followed tsl_followed sl_Garden_fresh sl_kept sl_law_right sl_law_draw sl_law_steps sl_law_rows sl_law_spec sl_law_states sl_law : Array (Option Value)} {oc_law_cell_at kV_law_cell_at dc_law_cell_at pm_law_cell_at cd_law_cell_at ct_law_cell_at oc_is_name kV_is_name dc_is_name pm_is_name cd_is_name ct_is_name oc_is_whole kV_is_whole dc_is_whole pm_is_whole cd_is_whole ct_is_whole oc_within kV_within dc_within pm_within cd_within ct_within oc_Pot_init kV_Pot_init dc_Pot_init pm_Pot_init cd_Pot_init ct_Pot_init oc_Cactus_init kV_Cactus_init dc_Cactus_init pm_Cactus_init cd_Cactus_init ct_Cactus_init oc_Garden_size kV_Garden_size dc_Garden_size pm_Garden_size cd_Garden_size ct_Garden_size oc_Garden_init kV_Garden_init dc_Garden_init pm_Garden_init cd_Garden_init ct_Garden_init toc_Garden_init oc_law_garden kV_law_garden dc_law_garden pm_law_garden cd_law_garden ct_law_garden oc_law_sorts kV_law_sorts dc_law_sorts pm_law_sorts cd_law_sorts ct_law_sorts oc_law_refusal kV_law_refusal dc_law_refusal pm_law_refusal cd_law_refusal ct_law_refusal oc_law_told kV_law_told dc_law_told pm_law_told cd_law_told ct_law_told oc_law_behind kV_law_behind dc_law_behind pm_law_behind cd_law_behind ct_law_behind oc_law_walked kV_law_walked dc_law_walked pm_law_walked cd_law_walked ct_law_walked oc_BadDay_init kV_BadDay_init dc_BadDay_init pm_BadDay_init cd_BadDay_init ct_BadDay_init oc_Garden_number kV_Garden_number dc_Garden_number pm_Garden_number cd_Garden_number ct_Garden_number oc_Cactus_may kV_Cactus_may dc_Cactus_may pm_Cactus_may cd_Cactus_may ct_Cactus_may oc_Pot_may kV_Pot_may dc_Pot_may pm_Pot_may cd_Pot_may ct_Pot_may oc_bits_of kV_bits_of dc_bits_of pm_bits_of cd_bits_of ct_bits_of oc_allowed kV_allowed dc_allowed pm_allowed cd_allowed ct_allowed oc_behind kV_behind dc_behind pm_behind cd_behind ct_behind oc_Garden_place kV_Garden_place dc_Garden_place pm_Garden_place cd_Garden_place ct_Garden_place oc_chosen_by kV_chosen_by dc_chosen_by pm_chosen_by cd_chosen_by ct_chosen_by toc_chosen_by oc_dry_pot kV_dry_pot dc_dry_pot pm_dry_pot cd_dry_pot ct_dry_pot oc_followed kV_followed dc_followed pm_followed cd_followed ct_followed toc_followed oc_Garden_fresh kV_Garden_fresh dc_Garden_fresh pm_Garden_fresh cd_Garden_fresh ct_Garden_fresh oc_kept kV_kept dc_kept pm_kept cd_kept ct_kept oc_law_right kV_law_right dc_law_right pm_law_right cd_law_right ct_law_right oc_law_draw kV_law_draw dc_law_draw pm_law_draw cd_law_draw ct_law_draw oc_law_steps kV_law_steps dc_law_steps pm_law_steps cd_law_steps ct_law_steps oc_law_rows kV_law_rows dc_law_rows pm_law_rows cd_law_rows ct_law_rows oc_law_spec kV_law_spec dc_law_spec pm_law_spec cd_law_spec ct_law_spec oc_law_states kV_law_states dc_law_states pm_law_states cd_law_states ct_law_states oc_law kV_law dc_law pm_law cd_law ct_law : Value} {tk_LETTERS tk_LONGEST tk_LONGEST_WEEK tk_MOST_POTS tk_MOST_STATES tt_Garden_init_0 tt_Garden_init_1 tt_Garden_init_2 tt_chosen_by_0 tt_followed_0 : Tok} {tn_Garden_init tn_chosen_by tn_followed : Nat}
    (aC_Pot : PySem.W.nsIn K mainGlobals "Pot" = some (some (.ref CPot)))
    (pg_Pot : PySem.W.plainGet K CPot Str.empty = true)
    (hd_Pot : PySem.W.hasDictIn K CPot = true)
    (po_Pot : PySem.W.plainOver K CPot = true)
    (sa_Pot : PySem.W.findIn K (.ref CPot) "__setattr__" = some (some (.builtin "object.__setattr__")))
    (ca_Pot : PySem.W.findIn K (.ref CPot) "__class__" = some (some (.builtin "object.__class__")))
    (mr_Pot : PySem.W.mroIn K CPot (.type "object") = some true)
    (ty_Pot : PySem.W.typeIn K (.ref CPot) = some (.type "type"))
    (ss_Pot : PySem.W.subIn K (.ref CPot) (.ref CPot) = some true)
    (kc_Pot : PySem.W.keepIn K (.ref CPot) = true)
    (no_Pot_name : PySem.W.findIn K (.ref CPot) "name" = some none)
    (no_Pot_gap : PySem.W.findIn K (.ref CPot) "gap" = some none)
    (mks_Pot : PySem.W.makesIn K CPot = true)
    (aC_Cactus : PySem.W.nsIn K mainGlobals "Cactus" = some (some (.ref CCactus)))
    (pg_Cactus : PySem.W.plainGet K CCactus Str.empty = true)
    (hd_Cactus : PySem.W.hasDictIn K CCactus = true)
    (po_Cactus : PySem.W.plainOver K CCactus = true)
    (sa_Cactus : PySem.W.findIn K (.ref CCactus) "__setattr__" = some (some (.builtin "object.__setattr__")))
    (ca_Cactus : PySem.W.findIn K (.ref CCactus) "__class__" = some (some (.builtin "object.__class__")))
    (mr_Cactus : PySem.W.mroIn K CCactus (.type "object") = some true)
    (ty_Cactus : PySem.W.typeIn K (.ref CCactus) = some (.type "type"))
    (ss_Cactus : PySem.W.subIn K (.ref CCactus) (.ref CCactus) = some true)
    (kc_Cactus : PySem.W.keepIn K (.ref CCactus) = true)
    (no_Cactus_name : PySem.W.findIn K (.ref CCactus) "name" = some none)
    (no_Cactus_gap : PySem.W.findIn K (.ref CCactus) "gap" = some none)
    (no_Cactus_rest : PySem.W.findIn K (.ref CCactus) "rest" = some none)
    (mks_Cactus : PySem.W.makesIn K CCactus = true)
    (aC_Garden : PySem.W.nsIn K mainGlobals "Garden" = some (some (.ref CGarden)))
    (pg_Garden : PySem.W.plainGet K CGarden Str.empty = true)
    (hd_Garden : PySem.W.hasDictIn K CGarden = true)
    (po_Garden : PySem.W.plainOver K CGarden = true)
    (sa_Garden : PySem.W.findIn K (.ref CGarden) "__setattr__" = some (some (.builtin "object.__setattr__")))
    (ca_Garden : PySem.W.findIn K (.ref CGarden) "__class__" = some (some (.builtin "object.__class__")))
    (mr_Garden : PySem.W.mroIn K CGarden (.type "object") = some true)
    (ty_Garden : PySem.W.typeIn K (.ref CGarden) = some (.type "type"))
    (ss_Garden : PySem.W.subIn K (.ref CGarden) (.ref CGarden) = some true)
    (kc_Garden : PySem.W.keepIn K (.ref CGarden) = true)
    (no_Garden_pots : PySem.W.findIn K (.ref CGarden) "pots" = some none)
    (no_Garden_cans : PySem.W.findIn K (.ref CGarden) "cans" = some none)
    (no_Garden_week : PySem.W.findIn K (.ref CGarden) "week" = some none)
    (no_Garden_closed : PySem.W.findIn K (.ref CGarden) "closed" = some none)
    (no_Garden_order : PySem.W.findIn K (.ref CGarden) "order" = some none)
    (mks_Garden : PySem.W.makesIn K CGarden = true)
    (spc : PySem.W.specialIn K (.builtin "object.__class__") "__get__" = some (some (.builtin "getset_descriptor.__get__")))
    (tkc : PySem.W.takesIn K (.builtin "object.__class__") = some true)
    (aX_BadDay : PySem.W.nsIn K mainGlobals "BadDay" = some (some (.ref XBadDay)))
    (eg_BadDay : PySem.W.findIn K (.ref XBadDay) "__getattribute__" = some (some (.builtin "BaseException.__getattribute__")))
    (ek_BadDay : PySem.W.findIn K (.ref XBadDay) "__getattr__" = some none)
    (es_BadDay : PySem.W.subIn K (.ref XBadDay) (.type "BaseException") = some true)
    (ed_BadDay : PySem.W.hasDictIn K XBadDay = true)
    (ea_BadDay : PySem.W.findIn K (.ref XBadDay) "__class__" = some (some (.builtin "object.__class__")))
    (em_BadDay : PySem.W.mroIn K XBadDay (.type "object") = some true)
    (aX_BadPot : PySem.W.nsIn K mainGlobals "BadPot" = some (some (.ref XBadPot)))
    (xe_BadPot : PySem.W.excIn K XBadPot [.type "ValueError", .type "Exception", .type "BaseException", .type "object"] "ValueError.__new__" = true)
    (xk_BadPot : PySem.W.keepIn K (.ref XBadPot) = true)
    (xs_BadPot : PySem.W.subIn K (.ref XBadPot) (.type "BaseException") = some true)
    (xt_BadPot : PySem.W.typeIn K (.ref XBadPot) = some (.type "type"))
    (aX_NoPot : PySem.W.nsIn K mainGlobals "NoPot" = some (some (.ref XNoPot)))
    (xe_NoPot : PySem.W.excIn K XNoPot [.type "ValueError", .type "Exception", .type "BaseException", .type "object"] "ValueError.__new__" = true)
    (xk_NoPot : PySem.W.keepIn K (.ref XNoPot) = true)
    (xs_NoPot : PySem.W.subIn K (.ref XNoPot) (.type "BaseException") = some true)
    (xt_NoPot : PySem.W.typeIn K (.ref XNoPot) = some (.type "type"))
    (eg_NoPot : PySem.W.findIn K (.ref XNoPot) "__getattribute__" = some (some (.builtin "BaseException.__getattribute__")))
    (ek_NoPot : PySem.W.findIn K (.ref XNoPot) "__getattr__" = some none)
    (es_NoPot : PySem.W.subIn K (.ref XNoPot) (.type "BaseException") = some true)
    (ed_NoPot : PySem.W.hasDictIn K XNoPot = true)
    (ea_NoPot : PySem.W.findIn K (.ref XNoPot) "__class__" = some (some (.builtin "object.__class__")))
    (em_NoPot : PySem.W.mroIn K XNoPot (.type "object") = some true)
    (aX_NoState : PySem.W.nsIn K mainGlobals "NoState" = some (some (.ref XNoState)))
    (xe_NoState : PySem.W.excIn K XNoState [.type "ValueError", .type "Exception", .type "BaseException", .type "object"] "ValueError.__new__" = true)
    (xk_NoState : PySem.W.keepIn K (.ref XNoState) = true)
    (xs_NoState : PySem.W.subIn K (.ref XNoState) (.type "BaseException") = some true)
    (xt_NoState : PySem.W.typeIn K (.ref XNoState) = some (.type "type"))
    (eg_NoState : PySem.W.findIn K (.ref XNoState) "__getattribute__" = some (some (.builtin "BaseException.__getattribute__")))
    (ek_NoState : PySem.W.findIn K (.ref XNoState) "__getattr__" = some none)
    (es_NoState : PySem.W.subIn K (.ref XNoState) (.type "BaseException") = some true)
    (ed_NoState : PySem.W.hasDictIn K XNoState = true)
    (ea_NoState : PySem.W.findIn K (.ref XNoState) "__class__" = some (some (.builtin "object.__class__")))
    (em_NoState : PySem.W.mroIn K XNoState (.type "object") = some true)
    (aX_TooMany : PySem.W.nsIn K mainGlobals "TooMany" = some (some (.ref XTooMany)))
    (xe_TooMany : PySem.W.excIn K XTooMany [.type "ValueError", .type "Exception", .type "BaseException", .type "object"] "ValueError.__new__" = true)
    (xk_TooMany : PySem.W.keepIn K (.ref XTooMany) = true)
    (xs_TooMany : PySem.W.subIn K (.ref XTooMany) (.type "BaseException") = some true)
    (xt_TooMany : PySem.W.typeIn K (.ref XTooMany) = some (.type "type"))
    (xo_BadDay : oexB K XBadDay = true)
    (xsa_BadDay : PySem.W.findIn K (.ref XBadDay) "__setattr__" = some (some (.builtin "object.__setattr__")))
    (xsb_BadDay : PySem.W.subIn K (.ref XBadDay) (.type "BaseException") = some true)
    (xty_BadDay : PySem.W.typeIn K (.ref XBadDay) = some (.type "type"))
    (xkp_BadDay : PySem.W.keepIn K (.ref XBadDay) = true)
    (xno_BadDay : PySem.W.findIn K (.ref XBadDay) "day" = some none)
    (aX_BadRow : PySem.W.nsIn K mainGlobals "BadRow" = some (some (.ref XBadRow)))
    (aX_GardenError : PySem.W.nsIn K mainGlobals "GardenError" = some (some (.ref XGardenError)))
    (gd_BadDay : PySem.W.hasDictIn K XBadDay = true)
    (gt_BadDay : PySem.W.typeIn K (.ref XBadDay) = some (.type "type"))
    (gs_BadDay : PySem.W.subIn K (.ref XBadDay) (.ref XBadDay) = some true)
    (gb_BadDay : PySem.W.subIn K (.ref XBadDay) (.type "BaseException") = some true)
    (gd_BadPot : PySem.W.hasDictIn K XBadPot = true)
    (gt_BadPot : PySem.W.typeIn K (.ref XBadPot) = some (.type "type"))
    (gs_BadPot : PySem.W.subIn K (.ref XBadPot) (.ref XBadPot) = some true)
    (gb_BadPot : PySem.W.subIn K (.ref XBadPot) (.type "BaseException") = some true)
    (gd_BadRow : PySem.W.hasDictIn K XBadRow = true)
    (gt_BadRow : PySem.W.typeIn K (.ref XBadRow) = some (.type "type"))
    (gs_BadRow : PySem.W.subIn K (.ref XBadRow) (.ref XBadRow) = some true)
    (gb_BadRow : PySem.W.subIn K (.ref XBadRow) (.type "BaseException") = some true)
    (gd_GardenError : PySem.W.hasDictIn K XGardenError = true)
    (gt_GardenError : PySem.W.typeIn K (.ref XGardenError) = some (.type "type"))
    (gs_GardenError : PySem.W.subIn K (.ref XGardenError) (.ref XGardenError) = some true)
    (gb_GardenError : PySem.W.subIn K (.ref XGardenError) (.type "BaseException") = some true)
    (gd_NoPot : PySem.W.hasDictIn K XNoPot = true)
    (gt_NoPot : PySem.W.typeIn K (.ref XNoPot) = some (.type "type"))
    (gs_NoPot : PySem.W.subIn K (.ref XNoPot) (.ref XNoPot) = some true)
    (gb_NoPot : PySem.W.subIn K (.ref XNoPot) (.type "BaseException") = some true)
    (gd_NoState : PySem.W.hasDictIn K XNoState = true)
    (gt_NoState : PySem.W.typeIn K (.ref XNoState) = some (.type "type"))
    (gs_NoState : PySem.W.subIn K (.ref XNoState) (.ref XNoState) = some true)
    (gb_NoState : PySem.W.subIn K (.ref XNoState) (.type "BaseException") = some true)
    (gd_TooMany : PySem.W.hasDictIn K XTooMany = true)
    (gt_TooMany : PySem.W.typeIn K (.ref XTooMany) = some (.type "type"))
    (gs_TooMany : PySem.W.subIn K (.ref XTooMany) (.ref XTooMany) = some true)
    (gb_TooMany : PySem.W.subIn K (.ref XTooMany) (.type "BaseException") = some true)
    (ie_BadDay_noState : PySem.W.subIn K (.ref XNoState) (.ref XBadDay) = some false)
    (ie_BadDay_noPot : PySem.W.subIn K (.ref XNoPot) (.ref XBadDay) = some false)
    (ie_BadDay_badDay : PySem.W.subIn K (.ref XBadDay) (.ref XBadDay) = some true)
    (ie_BadPot_noState : PySem.W.subIn K (.ref XNoState) (.ref XBadPot) = some false)
    (ie_BadPot_noPot : PySem.W.subIn K (.ref XNoPot) (.ref XBadPot) = some false)
    (ie_BadPot_badDay : PySem.W.subIn K (.ref XBadDay) (.ref XBadPot) = some false)
    (ie_BadRow_noState : PySem.W.subIn K (.ref XNoState) (.ref XBadRow) = some false)
    (ie_BadRow_noPot : PySem.W.subIn K (.ref XNoPot) (.ref XBadRow) = some false)
    (ie_BadRow_badDay : PySem.W.subIn K (.ref XBadDay) (.ref XBadRow) = some false)
    (ie_NoPot_noState : PySem.W.subIn K (.ref XNoState) (.ref XNoPot) = some false)
    (ie_NoPot_noPot : PySem.W.subIn K (.ref XNoPot) (.ref XNoPot) = some true)
    (ie_NoPot_badDay : PySem.W.subIn K (.ref XBadDay) (.ref XNoPot) = some false)
    (ie_NoState_noState : PySem.W.subIn K (.ref XNoState) (.ref XNoState) = some true)
    (ie_NoState_noPot : PySem.W.subIn K (.ref XNoPot) (.ref XNoState) = some false)
    (ie_NoState_badDay : PySem.W.subIn K (.ref XBadDay) (.ref XNoState) = some false)
    (ie_TooMany_noState : PySem.W.subIn K (.ref XNoState) (.ref XTooMany) = some false)
    (ie_TooMany_noPot : PySem.W.subIn K (.ref XNoPot) (.ref XTooMany) = some false)
    (ie_TooMany_badDay : PySem.W.subIn K (.ref XBadDay) (.ref XTooMany) = some false)
    (ie_ValueError_noState : PySem.W.subIn K (.ref XNoState) (.type "ValueError") = some true)
    (ie_ValueError_noPot : PySem.W.subIn K (.ref XNoPot) (.type "ValueError") = some true)
    (ie_ValueError_badDay : PySem.W.subIn K (.ref XBadDay) (.type "ValueError") = some true)
    (ct_GardenError_noState : PySem.W.subIn K (.ref XNoState) (.ref XGardenError) = some true)
    (ct_GardenError_noPot : PySem.W.subIn K (.ref XNoPot) (.ref XGardenError) = some true)
    (ct_GardenError_badDay : PySem.W.subIn K (.ref XBadDay) (.ref XGardenError) = some true)
    (b_ValueError : PySem.W.nsIn K mainGlobals "ValueError" = some none)
    (b_all : PySem.W.nsIn K mainGlobals "all" = some none)
    (b_bool : PySem.W.nsIn K mainGlobals "bool" = some none)
    (b_divmod : PySem.W.nsIn K mainGlobals "divmod" = some none)
    (b_int : PySem.W.nsIn K mainGlobals "int" = some none)
    (b_isinstance : PySem.W.nsIn K mainGlobals "isinstance" = some none)
    (b_len : PySem.W.nsIn K mainGlobals "len" = some none)
    (b_list : PySem.W.nsIn K mainGlobals "list" = some none)
    (b_max : PySem.W.nsIn K mainGlobals "max" = some none)
    (b_min : PySem.W.nsIn K mainGlobals "min" = some none)
    (b_range : PySem.W.nsIn K mainGlobals "range" = some none)
    (b_str : PySem.W.nsIn K mainGlobals "str" = some none)
    (b_tuple : PySem.W.nsIn K mainGlobals "tuple" = some none)
    (g_LETTERS : PySem.W.nsIn K mainGlobals "LETTERS" = some (some (.str "abcdefghijklmnopqrstuvwxyz" tk_LETTERS)))
    (g_LONGEST : PySem.W.nsIn K mainGlobals "LONGEST" = some (some (.int 60 tk_LONGEST)))
    (g_LONGEST_WEEK : PySem.W.nsIn K mainGlobals "LONGEST_WEEK" = some (some (.int 14 tk_LONGEST_WEEK)))
    (g_MOST_POTS : PySem.W.nsIn K mainGlobals "MOST_POTS" = some (some (.int 8 tk_MOST_POTS)))
    (g_MOST_STATES : PySem.W.nsIn K mainGlobals "MOST_STATES" = some (some (.int 20000 tk_MOST_STATES)))
    (is_Pot_o_cactus : PySem.W.subIn K (.ref CCactus) (.ref CPot) = some true)
    (is_Pot_o_pot : PySem.W.subIn K (.ref CPot) (.ref CPot) = some true)
    (rdx_GardenError : PySem.W.readsIn K XGardenError (.type "type") = true)
    (gax_GardenError : PySem.W.specialIn K (.ref XGardenError) "__getattribute__" = some (some (.builtin "type.__getattribute__")))
    (cvx_GardenError : PySem.W.findCls K (.ref XGardenError) (.type "type") "__init__" = some (.val (.builtin "ValueError.__init__")))
    (a_law_cell_at : PySem.W.nsIn K mainGlobals "_law_cell_at" = some (some (.ref f_law_cell_at)))
    (l_law_cell_at : K.lookup f_law_cell_at = some ⟨oc_law_cell_at, od_law_cell_at, .func (PySem.W.fnOf "_law_cell_at" "_law_cell_at" (defArgs s_law_cell_at) (defBody s_law_cell_at) (defScope s_law_cell_at) .none kV_law_cell_at dc_law_cell_at pm_law_cell_at an_law_cell_at cd_law_cell_at ct_law_cell_at), sl_law_cell_at⟩)
    (c_law_cell_at : PySem.W.codeIn K cd_law_cell_at "_law_cell_at" = true)
    (k_law_cell_at : PySem.W.keepIn K (.ref f_law_cell_at) = true)
    (a_is_name : PySem.W.nsIn K mainGlobals "is_name" = some (some (.ref f_is_name)))
    (l_is_name : K.lookup f_is_name = some ⟨oc_is_name, od_is_name, .func (PySem.W.fnOf "is_name" "is_name" (defArgs s_is_name) (defBody s_is_name) (defScope s_is_name) .none kV_is_name dc_is_name pm_is_name an_is_name cd_is_name ct_is_name), sl_is_name⟩)
    (c_is_name : PySem.W.codeIn K cd_is_name "is_name" = true)
    (k_is_name : PySem.W.keepIn K (.ref f_is_name) = true)
    (a_is_whole : PySem.W.nsIn K mainGlobals "is_whole" = some (some (.ref f_is_whole)))
    (l_is_whole : K.lookup f_is_whole = some ⟨oc_is_whole, od_is_whole, .func (PySem.W.fnOf "is_whole" "is_whole" (defArgs s_is_whole) (defBody s_is_whole) (defScope s_is_whole) .none kV_is_whole dc_is_whole pm_is_whole an_is_whole cd_is_whole ct_is_whole), sl_is_whole⟩)
    (c_is_whole : PySem.W.codeIn K cd_is_whole "is_whole" = true)
    (k_is_whole : PySem.W.keepIn K (.ref f_is_whole) = true)
    (a_within : PySem.W.nsIn K mainGlobals "within" = some (some (.ref f_within)))
    (l_within : K.lookup f_within = some ⟨oc_within, od_within, .func (PySem.W.fnOf "within" "within" (defArgs s_within) (defBody s_within) (defScope s_within) .none kV_within dc_within pm_within an_within cd_within ct_within), sl_within⟩)
    (c_within : PySem.W.codeIn K cd_within "within" = true)
    (k_within : PySem.W.keepIn K (.ref f_within) = true)
    (a_Pot_init : PySem.W.findIn K (.ref CPot) "__init__" = some (some (.ref f_Pot_init)))
    (i_Pot_init : PySem.W.isFn K (.ref f_Pot_init) = true)
    (l_Pot_init : K.lookup f_Pot_init = some ⟨oc_Pot_init, od_Pot_init, .func (PySem.W.fnOf "__init__" "Pot.__init__" (defArgs s_Pot_init) (defBody s_Pot_init) (defScope s_Pot_init) .none kV_Pot_init dc_Pot_init pm_Pot_init an_Pot_init cd_Pot_init ct_Pot_init), sl_Pot_init⟩)
    (c_Pot_init : PySem.W.codeIn K cd_Pot_init "Pot.__init__" = true)
    (k_Pot_init : PySem.W.keepIn K (.ref f_Pot_init) = true)
    (a_Cactus_init : PySem.W.findIn K (.ref CCactus) "__init__" = some (some (.ref f_Cactus_init)))
    (i_Cactus_init : PySem.W.isFn K (.ref f_Cactus_init) = true)
    (l_Cactus_init : K.lookup f_Cactus_init = some ⟨oc_Cactus_init, od_Cactus_init, .func (PySem.W.fnOf "__init__" "Cactus.__init__" (defArgs s_Cactus_init) (defBody s_Cactus_init) (defScope s_Cactus_init) .none kV_Cactus_init dc_Cactus_init pm_Cactus_init an_Cactus_init cd_Cactus_init ct_Cactus_init), sl_Cactus_init⟩)
    (c_Cactus_init : PySem.W.codeIn K cd_Cactus_init "Cactus.__init__" = true)
    (k_Cactus_init : PySem.W.keepIn K (.ref f_Cactus_init) = true)
    (a_Garden_size : PySem.W.findIn K (.ref CGarden) "size" = some (some (.ref f_Garden_size)))
    (i_Garden_size : PySem.W.isFn K (.ref f_Garden_size) = true)
    (l_Garden_size : K.lookup f_Garden_size = some ⟨oc_Garden_size, od_Garden_size, .func (PySem.W.fnOf "size" "Garden.size" (defArgs s_Garden_size) (defBody s_Garden_size) (defScope s_Garden_size) .none kV_Garden_size dc_Garden_size pm_Garden_size an_Garden_size cd_Garden_size ct_Garden_size), sl_Garden_size⟩)
    (c_Garden_size : PySem.W.codeIn K cd_Garden_size "Garden.size" = true)
    (k_Garden_size : PySem.W.keepIn K (.ref f_Garden_size) = true)
    (a_Garden_init : PySem.W.findIn K (.ref CGarden) "__init__" = some (some (.ref f_Garden_init)))
    (i_Garden_init : PySem.W.isFn K (.ref f_Garden_init) = true)
    (l_Garden_init : K.lookup f_Garden_init = some ⟨oc_Garden_init, od_Garden_init, .func (PySem.W.fnOf "__init__" "Garden.__init__" (defArgs s_Garden_init) (defBody s_Garden_init) (defScope s_Garden_init) (.ref T_Garden_init) kV_Garden_init dc_Garden_init pm_Garden_init an_Garden_init cd_Garden_init ct_Garden_init), sl_Garden_init⟩)
    (c_Garden_init : PySem.W.codeIn K cd_Garden_init "Garden.__init__" = true)
    (k_Garden_init : PySem.W.keepIn K (.ref f_Garden_init) = true)
    (t_Garden_init : K.lookup T_Garden_init = some ⟨toc_Garden_init, tod_Garden_init, .seq (List.toArray [.int 1 tt_Garden_init_0, .int 1 tt_Garden_init_1, .int 0 tt_Garden_init_2]) tn_Garden_init, tsl_Garden_init⟩)
    (a_law_garden : PySem.W.nsIn K mainGlobals "_law_garden" = some (some (.ref f_law_garden)))
    (l_law_garden : K.lookup f_law_garden = some ⟨oc_law_garden, od_law_garden, .func (PySem.W.fnOf "_law_garden" "_law_garden" (defArgs s_law_garden) (defBody s_law_garden) (defScope s_law_garden) .none kV_law_garden dc_law_garden pm_law_garden an_law_garden cd_law_garden ct_law_garden), sl_law_garden⟩)
    (c_law_garden : PySem.W.codeIn K cd_law_garden "_law_garden" = true)
    (k_law_garden : PySem.W.keepIn K (.ref f_law_garden) = true)
    (a_law_sorts : PySem.W.nsIn K mainGlobals "_law_sorts" = some (some (.ref f_law_sorts)))
    (l_law_sorts : K.lookup f_law_sorts = some ⟨oc_law_sorts, od_law_sorts, .func (PySem.W.fnOf "_law_sorts" "_law_sorts" (defArgs s_law_sorts) (defBody s_law_sorts) (defScope s_law_sorts) .none kV_law_sorts dc_law_sorts pm_law_sorts an_law_sorts cd_law_sorts ct_law_sorts), sl_law_sorts⟩)
    (c_law_sorts : PySem.W.codeIn K cd_law_sorts "_law_sorts" = true)
    (k_law_sorts : PySem.W.keepIn K (.ref f_law_sorts) = true)
    (a_law_refusal : PySem.W.nsIn K mainGlobals "_law_refusal" = some (some (.ref f_law_refusal)))
    (l_law_refusal : K.lookup f_law_refusal = some ⟨oc_law_refusal, od_law_refusal, .func (PySem.W.fnOf "_law_refusal" "_law_refusal" (defArgs s_law_refusal) (defBody s_law_refusal) (defScope s_law_refusal) .none kV_law_refusal dc_law_refusal pm_law_refusal an_law_refusal cd_law_refusal ct_law_refusal), sl_law_refusal⟩)
    (c_law_refusal : PySem.W.codeIn K cd_law_refusal "_law_refusal" = true)
    (k_law_refusal : PySem.W.keepIn K (.ref f_law_refusal) = true)
    (a_law_told : PySem.W.nsIn K mainGlobals "_law_told" = some (some (.ref f_law_told)))
    (l_law_told : K.lookup f_law_told = some ⟨oc_law_told, od_law_told, .func (PySem.W.fnOf "_law_told" "_law_told" (defArgs s_law_told) (defBody s_law_told) (defScope s_law_told) .none kV_law_told dc_law_told pm_law_told an_law_told cd_law_told ct_law_told), sl_law_told⟩)
    (c_law_told : PySem.W.codeIn K cd_law_told "_law_told" = true)
    (k_law_told : PySem.W.keepIn K (.ref f_law_told) = true)
    (a_law_behind : PySem.W.nsIn K mainGlobals "_law_behind" = some (some (.ref f_law_behind)))
    (l_law_behind : K.lookup f_law_behind = some ⟨oc_law_behind, od_law_behind, .func (PySem.W.fnOf "_law_behind" "_law_behind" (defArgs s_law_behind) (defBody s_law_behind) (defScope s_law_behind) .none kV_law_behind dc_law_behind pm_law_behind an_law_behind cd_law_behind ct_law_behind), sl_law_behind⟩)
    (c_law_behind : PySem.W.codeIn K cd_law_behind "_law_behind" = true)
    (k_law_behind : PySem.W.keepIn K (.ref f_law_behind) = true)
    (a_law_walked : PySem.W.nsIn K mainGlobals "_law_walked" = some (some (.ref f_law_walked)))
    (l_law_walked : K.lookup f_law_walked = some ⟨oc_law_walked, od_law_walked, .func (PySem.W.fnOf "_law_walked" "_law_walked" (defArgs s_law_walked) (defBody s_law_walked) (defScope s_law_walked) .none kV_law_walked dc_law_walked pm_law_walked an_law_walked cd_law_walked ct_law_walked), sl_law_walked⟩)
    (c_law_walked : PySem.W.codeIn K cd_law_walked "_law_walked" = true)
    (k_law_walked : PySem.W.keepIn K (.ref f_law_walked) = true)
    (a_BadDay_init : PySem.W.findIn K (.ref XBadDay) "__init__" = some (some (.ref f_BadDay_init)))
    (i_BadDay_init : PySem.W.typeIn K (.ref f_BadDay_init) = some (.type "function"))
    (l_BadDay_init : K.lookup f_BadDay_init = some ⟨oc_BadDay_init, od_BadDay_init, .func (PySem.W.fnOf "__init__" "BadDay.__init__" (defArgs s_BadDay_init) (defBody s_BadDay_init) (defScope s_BadDay_init) .none kV_BadDay_init dc_BadDay_init pm_BadDay_init an_BadDay_init cd_BadDay_init ct_BadDay_init), sl_BadDay_init⟩)
    (c_BadDay_init : PySem.W.codeIn K cd_BadDay_init "BadDay.__init__" = true)
    (k_BadDay_init : PySem.W.keepIn K (.ref f_BadDay_init) = true)
    (a_Garden_number : PySem.W.findIn K (.ref CGarden) "number" = some (some (.ref f_Garden_number)))
    (i_Garden_number : PySem.W.isFn K (.ref f_Garden_number) = true)
    (l_Garden_number : K.lookup f_Garden_number = some ⟨oc_Garden_number, od_Garden_number, .func (PySem.W.fnOf "number" "Garden.number" (defArgs s_Garden_number) (defBody s_Garden_number) (defScope s_Garden_number) .none kV_Garden_number dc_Garden_number pm_Garden_number an_Garden_number cd_Garden_number ct_Garden_number), sl_Garden_number⟩)
    (c_Garden_number : PySem.W.codeIn K cd_Garden_number "Garden.number" = true)
    (k_Garden_number : PySem.W.keepIn K (.ref f_Garden_number) = true)
    (a_Cactus_may : PySem.W.findIn K (.ref CCactus) "may" = some (some (.ref f_Cactus_may)))
    (i_Cactus_may : PySem.W.isFn K (.ref f_Cactus_may) = true)
    (l_Cactus_may : K.lookup f_Cactus_may = some ⟨oc_Cactus_may, od_Cactus_may, .func (PySem.W.fnOf "may" "Cactus.may" (defArgs s_Cactus_may) (defBody s_Cactus_may) (defScope s_Cactus_may) .none kV_Cactus_may dc_Cactus_may pm_Cactus_may an_Cactus_may cd_Cactus_may ct_Cactus_may), sl_Cactus_may⟩)
    (c_Cactus_may : PySem.W.codeIn K cd_Cactus_may "Cactus.may" = true)
    (k_Cactus_may : PySem.W.keepIn K (.ref f_Cactus_may) = true)
    (a_Pot_may : PySem.W.findIn K (.ref CPot) "may" = some (some (.ref f_Pot_may)))
    (i_Pot_may : PySem.W.isFn K (.ref f_Pot_may) = true)
    (l_Pot_may : K.lookup f_Pot_may = some ⟨oc_Pot_may, od_Pot_may, .func (PySem.W.fnOf "may" "Pot.may" (defArgs s_Pot_may) (defBody s_Pot_may) (defScope s_Pot_may) .none kV_Pot_may dc_Pot_may pm_Pot_may an_Pot_may cd_Pot_may ct_Pot_may), sl_Pot_may⟩)
    (c_Pot_may : PySem.W.codeIn K cd_Pot_may "Pot.may" = true)
    (k_Pot_may : PySem.W.keepIn K (.ref f_Pot_may) = true)
    (a_bits_of : PySem.W.nsIn K mainGlobals "bits_of" = some (some (.ref f_bits_of)))
    (l_bits_of : K.lookup f_bits_of = some ⟨oc_bits_of, od_bits_of, .func (PySem.W.fnOf "bits_of" "bits_of" (defArgs s_bits_of) (defBody s_bits_of) (defScope s_bits_of) .none kV_bits_of dc_bits_of pm_bits_of an_bits_of cd_bits_of ct_bits_of), sl_bits_of⟩)
    (c_bits_of : PySem.W.codeIn K cd_bits_of "bits_of" = true)
    (k_bits_of : PySem.W.keepIn K (.ref f_bits_of) = true)
    (a_allowed : PySem.W.nsIn K mainGlobals "allowed" = some (some (.ref f_allowed)))
    (l_allowed : K.lookup f_allowed = some ⟨oc_allowed, od_allowed, .func (PySem.W.fnOf "allowed" "allowed" (defArgs s_allowed) (defBody s_allowed) (defScope s_allowed) .none kV_allowed dc_allowed pm_allowed an_allowed cd_allowed ct_allowed), sl_allowed⟩)
    (c_allowed : PySem.W.codeIn K cd_allowed "allowed" = true)
    (k_allowed : PySem.W.keepIn K (.ref f_allowed) = true)
    (a_behind : PySem.W.nsIn K mainGlobals "behind" = some (some (.ref f_behind)))
    (l_behind : K.lookup f_behind = some ⟨oc_behind, od_behind, .func (PySem.W.fnOf "behind" "behind" (defArgs s_behind) (defBody s_behind) (defScope s_behind) .none kV_behind dc_behind pm_behind an_behind cd_behind ct_behind), sl_behind⟩)
    (c_behind : PySem.W.codeIn K cd_behind "behind" = true)
    (k_behind : PySem.W.keepIn K (.ref f_behind) = true)
    (a_Garden_place : PySem.W.findIn K (.ref CGarden) "place" = some (some (.ref f_Garden_place)))
    (i_Garden_place : PySem.W.isFn K (.ref f_Garden_place) = true)
    (l_Garden_place : K.lookup f_Garden_place = some ⟨oc_Garden_place, od_Garden_place, .func (PySem.W.fnOf "place" "Garden.place" (defArgs s_Garden_place) (defBody s_Garden_place) (defScope s_Garden_place) .none kV_Garden_place dc_Garden_place pm_Garden_place an_Garden_place cd_Garden_place ct_Garden_place), sl_Garden_place⟩)
    (c_Garden_place : PySem.W.codeIn K cd_Garden_place "Garden.place" = true)
    (k_Garden_place : PySem.W.keepIn K (.ref f_Garden_place) = true)
    (a_chosen_by : PySem.W.nsIn K mainGlobals "chosen_by" = some (some (.ref f_chosen_by)))
    (l_chosen_by : K.lookup f_chosen_by = some ⟨oc_chosen_by, od_chosen_by, .func (PySem.W.fnOf "chosen_by" "chosen_by" (defArgs s_chosen_by) (defBody s_chosen_by) (defScope s_chosen_by) (.ref T_chosen_by) kV_chosen_by dc_chosen_by pm_chosen_by an_chosen_by cd_chosen_by ct_chosen_by), sl_chosen_by⟩)
    (c_chosen_by : PySem.W.codeIn K cd_chosen_by "chosen_by" = true)
    (k_chosen_by : PySem.W.keepIn K (.ref f_chosen_by) = true)
    (t_chosen_by : K.lookup T_chosen_by = some ⟨toc_chosen_by, tod_chosen_by, .seq (List.toArray [.int 0 tt_chosen_by_0]) tn_chosen_by, tsl_chosen_by⟩)
    (a_dry_pot : PySem.W.nsIn K mainGlobals "dry_pot" = some (some (.ref f_dry_pot)))
    (l_dry_pot : K.lookup f_dry_pot = some ⟨oc_dry_pot, od_dry_pot, .func (PySem.W.fnOf "dry_pot" "dry_pot" (defArgs s_dry_pot) (defBody s_dry_pot) (defScope s_dry_pot) .none kV_dry_pot dc_dry_pot pm_dry_pot an_dry_pot cd_dry_pot ct_dry_pot), sl_dry_pot⟩)
    (c_dry_pot : PySem.W.codeIn K cd_dry_pot "dry_pot" = true)
    (k_dry_pot : PySem.W.keepIn K (.ref f_dry_pot) = true)
    (a_followed : PySem.W.nsIn K mainGlobals "followed" = some (some (.ref f_followed)))
    (l_followed : K.lookup f_followed = some ⟨oc_followed, od_followed, .func (PySem.W.fnOf "followed" "followed" (defArgs s_followed) (defBody s_followed) (defScope s_followed) (.ref T_followed) kV_followed dc_followed pm_followed an_followed cd_followed ct_followed), sl_followed⟩)
    (c_followed : PySem.W.codeIn K cd_followed "followed" = true)
    (k_followed : PySem.W.keepIn K (.ref f_followed) = true)
    (t_followed : K.lookup T_followed = some ⟨toc_followed, tod_followed, .seq (List.toArray [.int 0 tt_followed_0]) tn_followed, tsl_followed⟩)
    (a_Garden_fresh : PySem.W.findIn K (.ref CGarden) "fresh" = some (some (.ref f_Garden_fresh)))
    (i_Garden_fresh : PySem.W.isFn K (.ref f_Garden_fresh) = true)
    (l_Garden_fresh : K.lookup f_Garden_fresh = some ⟨oc_Garden_fresh, od_Garden_fresh, .func (PySem.W.fnOf "fresh" "Garden.fresh" (defArgs s_Garden_fresh) (defBody s_Garden_fresh) (defScope s_Garden_fresh) .none kV_Garden_fresh dc_Garden_fresh pm_Garden_fresh an_Garden_fresh cd_Garden_fresh ct_Garden_fresh), sl_Garden_fresh⟩)
    (c_Garden_fresh : PySem.W.codeIn K cd_Garden_fresh "Garden.fresh" = true)
    (k_Garden_fresh : PySem.W.keepIn K (.ref f_Garden_fresh) = true)
    (a_kept : PySem.W.nsIn K mainGlobals "kept" = some (some (.ref f_kept)))
    (l_kept : K.lookup f_kept = some ⟨oc_kept, od_kept, .func (PySem.W.fnOf "kept" "kept" (defArgs s_kept) (defBody s_kept) (defScope s_kept) .none kV_kept dc_kept pm_kept an_kept cd_kept ct_kept), sl_kept⟩)
    (c_kept : PySem.W.codeIn K cd_kept "kept" = true)
    (k_kept : PySem.W.keepIn K (.ref f_kept) = true)
    (a_law_right : PySem.W.nsIn K mainGlobals "_law_right" = some (some (.ref f_law_right)))
    (l_law_right : K.lookup f_law_right = some ⟨oc_law_right, od_law_right, .func (PySem.W.fnOf "_law_right" "_law_right" (defArgs s_law_right) (defBody s_law_right) (defScope s_law_right) .none kV_law_right dc_law_right pm_law_right an_law_right cd_law_right ct_law_right), sl_law_right⟩)
    (c_law_right : PySem.W.codeIn K cd_law_right "_law_right" = true)
    (k_law_right : PySem.W.keepIn K (.ref f_law_right) = true)
    (a_law_draw : PySem.W.nsIn K mainGlobals "_law_draw" = some (some (.ref f_law_draw)))
    (l_law_draw : K.lookup f_law_draw = some ⟨oc_law_draw, od_law_draw, .func (PySem.W.fnOf "_law_draw" "_law_draw" (defArgs s_law_draw) (defBody s_law_draw) (defScope s_law_draw) .none kV_law_draw dc_law_draw pm_law_draw an_law_draw cd_law_draw ct_law_draw), sl_law_draw⟩)
    (c_law_draw : PySem.W.codeIn K cd_law_draw "_law_draw" = true)
    (k_law_draw : PySem.W.keepIn K (.ref f_law_draw) = true)
    (a_law_steps : PySem.W.nsIn K mainGlobals "_law_steps" = some (some (.ref f_law_steps)))
    (l_law_steps : K.lookup f_law_steps = some ⟨oc_law_steps, od_law_steps, .func (PySem.W.fnOf "_law_steps" "_law_steps" (defArgs s_law_steps) (defBody s_law_steps) (defScope s_law_steps) .none kV_law_steps dc_law_steps pm_law_steps an_law_steps cd_law_steps ct_law_steps), sl_law_steps⟩)
    (c_law_steps : PySem.W.codeIn K cd_law_steps "_law_steps" = true)
    (k_law_steps : PySem.W.keepIn K (.ref f_law_steps) = true)
    (a_law_rows : PySem.W.nsIn K mainGlobals "_law_rows" = some (some (.ref f_law_rows)))
    (l_law_rows : K.lookup f_law_rows = some ⟨oc_law_rows, od_law_rows, .func (PySem.W.fnOf "_law_rows" "_law_rows" (defArgs s_law_rows) (defBody s_law_rows) (defScope s_law_rows) .none kV_law_rows dc_law_rows pm_law_rows an_law_rows cd_law_rows ct_law_rows), sl_law_rows⟩)
    (c_law_rows : PySem.W.codeIn K cd_law_rows "_law_rows" = true)
    (k_law_rows : PySem.W.keepIn K (.ref f_law_rows) = true)
    (a_law_spec : PySem.W.nsIn K mainGlobals "_law_spec" = some (some (.ref f_law_spec)))
    (l_law_spec : K.lookup f_law_spec = some ⟨oc_law_spec, od_law_spec, .func (PySem.W.fnOf "_law_spec" "_law_spec" (defArgs s_law_spec) (defBody s_law_spec) (defScope s_law_spec) .none kV_law_spec dc_law_spec pm_law_spec an_law_spec cd_law_spec ct_law_spec), sl_law_spec⟩)
    (c_law_spec : PySem.W.codeIn K cd_law_spec "_law_spec" = true)
    (k_law_spec : PySem.W.keepIn K (.ref f_law_spec) = true)
    (a_law_states : PySem.W.nsIn K mainGlobals "_law_states" = some (some (.ref f_law_states)))
    (l_law_states : K.lookup f_law_states = some ⟨oc_law_states, od_law_states, .func (PySem.W.fnOf "_law_states" "_law_states" (defArgs s_law_states) (defBody s_law_states) (defScope s_law_states) .none kV_law_states dc_law_states pm_law_states an_law_states cd_law_states ct_law_states), sl_law_states⟩)
    (c_law_states : PySem.W.codeIn K cd_law_states "_law_states" = true)
    (k_law_states : PySem.W.keepIn K (.ref f_law_states) = true)
    (a_law : PySem.W.nsIn K mainGlobals "law" = some (some (.ref f_law)))
    (l_law : K.lookup f_law = some ⟨oc_law, od_law, .func (PySem.W.fnOf "law" "law" (defArgs s_law) (defBody s_law) (defScope s_law) .none kV_law dc_law pm_law an_law cd_law ct_law), sl_law⟩)
    (c_law : PySem.W.codeIn K cd_law "law" = true)
    (k_law : PySem.W.keepIn K (.ref f_law) = true)
    (rd_Pot : PySem.W.readsIn K CPot (.type "type") = true)
    (ga_Pot : PySem.W.specialIn K (.ref CPot) "__getattribute__" = some (some (.builtin "type.__getattribute__")))
    (cv_Pot : PySem.W.findCls K (.ref CPot) (.type "type") "__init__" = some (.val (.ref f_Pot_init))) :
    ∃ fd : FuncData, (∀ (s : Shared) (v : Value), BindsTo s fd ⟨[v], []⟩ [("_law_script", v)]) ∧ ∀ base : Heap, K.In base → base.Ns mainGlobals mg → FnG l.prog w K mg base (L2N.CX l.prog w) 8 fa fd ["_law_script"] (spLaw K) := by
  have q := hfa.symm.trans (PySem.W.mg_of X G a_law)
  cases q
  refine ⟨PySem.W.fnOf "law" "law" (defArgs s_law) (defBody s_law) (defScope s_law) .none kV_law dc_law pm_law an_law cd_law ct_law, fun s v => .of_eq rfl, fun base _ _ => ?_⟩
  generalize eA : adOf CPot CCactus CGarden XBadDay XBadPot XNoPot XNoState XTooMany = A
  have eC_Pot : A.cl .pot = CPot := by rw [← eA]; rfl
  have eC_Cactus : A.cl .cactus = CCactus := by rw [← eA]; rfl
  have eC_Garden : A.cl .garden = CGarden := by rw [← eA]; rfl
  have eX_BadDay : A.xc .badDay = XBadDay := by rw [← eA]; rfl
  have eX_BadPot : A.xc .badPot = XBadPot := by rw [← eA]; rfl
  have eX_NoPot : A.xc .noPot = XNoPot := by rw [← eA]; rfl
  have eX_NoState : A.xc .noState = XNoState := by rw [← eA]; rfl
  have eX_TooMany : A.xc .tooMany = XTooMany := by rw [← eA]; rfl
  have cl_Pot : Cls K (A.cl .pot) := by rw [eC_Pot]; exact ⟨pg_Pot, hd_Pot, po_Pot, sa_Pot⟩
  have cl_Cactus : Cls K (A.cl .cactus) := by rw [eC_Cactus]; exact ⟨pg_Cactus, hd_Cactus, po_Cactus, sa_Cactus⟩
  have cl_Garden : Cls K (A.cl .garden) := by rw [eC_Garden]; exact ⟨pg_Garden, hd_Garden, po_Garden, sa_Garden⟩
  have nn_Pot : ∀ n, n ∈ Cl.names .pot → NoAttr K (A.cl .pot) n := by
    rw [eC_Pot]; intro n hn
    simp only [Cl.names, List.mem_cons, List.not_mem_nil, or_false] at hn
    rcases hn with rfl | rfl
    · exact no_Pot_name
    · exact no_Pot_gap
  have nn_Cactus : ∀ n, n ∈ Cl.names .cactus → NoAttr K (A.cl .cactus) n := by
    rw [eC_Cactus]; intro n hn
    simp only [Cl.names, List.mem_cons, List.not_mem_nil, or_false] at hn
    rcases hn with rfl | rfl | rfl
    · exact no_Cactus_name
    · exact no_Cactus_gap
    · exact no_Cactus_rest
  have nn_Garden : ∀ n, n ∈ Cl.names .garden → NoAttr K (A.cl .garden) n := by
    rw [eC_Garden]; intro n hn
    simp only [Cl.names, List.mem_cons, List.not_mem_nil, or_false] at hn
    rcases hn with rfl | rfl | rfl | rfl | rfl
    · exact no_Garden_pots
    · exact no_Garden_cans
    · exact no_Garden_week
    · exact no_Garden_closed
    · exact no_Garden_order
  have hasA : ∀ c, A.has c = true → c = .pot ∨ c = .cactus ∨ c = .garden := by
    intro c hc; rw [← eA] at hc; cases c <;> first | (simp; done) | cases hc
  have cf1 : ∀ c, A.has c = true → Cls K (A.cl c) := by
    intro c hc; rcases hasA c hc with rfl | rfl | rfl
    · exact cl_Pot
    · exact cl_Cactus
    · exact cl_Garden
  have cf2 : ∀ c n, A.has c = true → n ∈ c.names → NoAttr K (A.cl c) n := by
    intro c n hc hn; rcases hasA c hc with rfl | rfl | rfl
    · exact nn_Pot n hn
    · exact nn_Cactus n hn
    · exact nn_Garden n hn
  have cf3 : ∀ c, A.has c = true → PySem.W.findIn K (.ref (A.cl c)) "__class__" = some (some (.builtin "object.__class__")) := by
    intro c hc; rcases hasA c hc with rfl | rfl | rfl
    · rw [eC_Pot]; exact ca_Pot
    · rw [eC_Cactus]; exact ca_Cactus
    · rw [eC_Garden]; exact ca_Garden
  have cf4 : ∀ c, A.has c = true → PySem.W.mroIn K (A.cl c) (.type "object") = some true := by
    intro c hc; rcases hasA c hc with rfl | rfl | rfl
    · rw [eC_Pot]; exact mr_Pot
    · rw [eC_Cactus]; exact mr_Cactus
    · rw [eC_Garden]; exact mr_Garden
  have cfA : ClsF K A := ⟨cf1, cf2, cf3, cf4, spc, tkc⟩
  have T : Txt K mg A ⟨XBadDay, XBadPot, XBadRow, XGardenError, XNoPot, XNoState, XTooMany⟩ := {
      b_ValueError := PySem.W.mg_none_of X G b_ValueError
      b_all := PySem.W.mg_none_of X G b_all
      b_bool := PySem.W.mg_none_of X G b_bool
      b_divmod := PySem.W.mg_none_of X G b_divmod
      b_int := PySem.W.mg_none_of X G b_int
      b_isinstance := PySem.W.mg_none_of X G b_isinstance
      b_len := PySem.W.mg_none_of X G b_len
      b_list := PySem.W.mg_none_of X G b_list
      b_max := PySem.W.mg_none_of X G b_max
      b_min := PySem.W.mg_none_of X G b_min
      b_range := PySem.W.mg_none_of X G b_range
      b_str := PySem.W.mg_none_of X G b_str
      b_tuple := PySem.W.mg_none_of X G b_tuple
      g_LETTERS := ⟨_, PySem.W.mg_of X G g_LETTERS, ⟨_, rfl⟩⟩
      g_LONGEST := ⟨_, PySem.W.mg_of X G g_LONGEST, ⟨_, rfl⟩⟩
      g_LONGEST_WEEK := ⟨_, PySem.W.mg_of X G g_LONGEST_WEEK, ⟨_, rfl⟩⟩
      g_MOST_POTS := ⟨_, PySem.W.mg_of X G g_MOST_POTS, ⟨_, rfl⟩⟩
      g_MOST_STATES := ⟨_, PySem.W.mg_of X G g_MOST_STATES, ⟨_, rfl⟩⟩
      cf := cfA
      is_Pot := by
            intro t b ht _
            unfold isPot at ht
            split at ht
            · cases ht; have z := kit_ref hd_Pot ty_Pot ss_Pot is_Pot_o_cactus; first | (show PySem.W.kitOne K (.ref (A.cl .cactus)) (.ref (A.cl .pot)) = _; rw [eC_Pot, eC_Cactus]; exact z) | (rw [eC_Pot]; exact z)
            · cases ht; have z := kit_ref hd_Pot ty_Pot ss_Pot is_Pot_o_pot; first | (show PySem.W.kitOne K (.ref (A.cl .pot)) (.ref (A.cl .pot)) = _; rw [eC_Pot]; exact z) | (rw [eC_Pot]; exact z)
            · cases ht
      g_Pot := by rw [eC_Pot]; exact PySem.W.mg_of X G aC_Pot
      gx_BadDay := PySem.W.mg_of X G aX_BadDay
      gx_BadPot := PySem.W.mg_of X G aX_BadPot
      gx_BadRow := PySem.W.mg_of X G aX_BadRow
      gx_GardenError := PySem.W.mg_of X G aX_GardenError
      gx_NoPot := PySem.W.mg_of X G aX_NoPot
      gx_NoState := PySem.W.mg_of X G aX_NoState
      gx_TooMany := PySem.W.mg_of X G aX_TooMany
      isE_BadDay := by
            intro c b hc
            unfold isE_BadDay at hc
            split at hc
            · cases hc; refine ⟨?_, ?_⟩
              · rw [eX_NoState]; exact ⟨eg_NoState, ek_NoState, es_NoState, ed_NoState, ea_NoState, spc, tkc, em_NoState⟩
              · rw [eX_NoState]; exact kit_ref gd_BadDay gt_BadDay gs_BadDay ie_BadDay_noState
            · cases hc; refine ⟨?_, ?_⟩
              · rw [eX_NoPot]; exact ⟨eg_NoPot, ek_NoPot, es_NoPot, ed_NoPot, ea_NoPot, spc, tkc, em_NoPot⟩
              · rw [eX_NoPot]; exact kit_ref gd_BadDay gt_BadDay gs_BadDay ie_BadDay_noPot
            · cases hc; refine ⟨?_, ?_⟩
              · rw [eX_BadDay]; exact ⟨eg_BadDay, ek_BadDay, es_BadDay, ed_BadDay, ea_BadDay, spc, tkc, em_BadDay⟩
              · rw [eX_BadDay]; exact kit_ref gd_BadDay gt_BadDay gs_BadDay ie_BadDay_badDay
            · cases hc
      isE_BadPot := by
            intro c b hc
            unfold isE_BadPot at hc
            split at hc
            · cases hc; refine ⟨?_, ?_⟩
              · rw [eX_NoState]; exact ⟨eg_NoState, ek_NoState, es_NoState, ed_NoState, ea_NoState, spc, tkc, em_NoState⟩
              · rw [eX_NoState]; exact kit_ref gd_BadPot gt_BadPot gs_BadPot ie_BadPot_noState
            · cases hc; refine ⟨?_, ?_⟩
              · rw [eX_NoPot]; exact ⟨eg_NoPot, ek_NoPot, es_NoPot, ed_NoPot, ea_NoPot, spc, tkc, em_NoPot⟩
              · rw [eX_NoPot]; exact kit_ref gd_BadPot gt_BadPot gs_BadPot ie_BadPot_noPot
            · cases hc; refine ⟨?_, ?_⟩
              · rw [eX_BadDay]; exact ⟨eg_BadDay, ek_BadDay, es_BadDay, ed_BadDay, ea_BadDay, spc, tkc, em_BadDay⟩
              · rw [eX_BadDay]; exact kit_ref gd_BadPot gt_BadPot gs_BadPot ie_BadPot_badDay
            · cases hc
      isE_BadRow := by
            intro c b hc
            unfold isE_BadRow at hc
            split at hc
            · cases hc; refine ⟨?_, ?_⟩
              · rw [eX_NoState]; exact ⟨eg_NoState, ek_NoState, es_NoState, ed_NoState, ea_NoState, spc, tkc, em_NoState⟩
              · rw [eX_NoState]; exact kit_ref gd_BadRow gt_BadRow gs_BadRow ie_BadRow_noState
            · cases hc; refine ⟨?_, ?_⟩
              · rw [eX_NoPot]; exact ⟨eg_NoPot, ek_NoPot, es_NoPot, ed_NoPot, ea_NoPot, spc, tkc, em_NoPot⟩
              · rw [eX_NoPot]; exact kit_ref gd_BadRow gt_BadRow gs_BadRow ie_BadRow_noPot
            · cases hc; refine ⟨?_, ?_⟩
              · rw [eX_BadDay]; exact ⟨eg_BadDay, ek_BadDay, es_BadDay, ed_BadDay, ea_BadDay, spc, tkc, em_BadDay⟩
              · rw [eX_BadDay]; exact kit_ref gd_BadRow gt_BadRow gs_BadRow ie_BadRow_badDay
            · cases hc
      isE_NoPot := by
            intro c b hc
            unfold isE_NoPot at hc
            split at hc
            · cases hc; refine ⟨?_, ?_⟩
              · rw [eX_NoState]; exact ⟨eg_NoState, ek_NoState, es_NoState, ed_NoState, ea_NoState, spc, tkc, em_NoState⟩
              · rw [eX_NoState]; exact kit_ref gd_NoPot gt_NoPot gs_NoPot ie_NoPot_noState
            · cases hc; refine ⟨?_, ?_⟩
              · rw [eX_NoPot]; exact ⟨eg_NoPot, ek_NoPot, es_NoPot, ed_NoPot, ea_NoPot, spc, tkc, em_NoPot⟩
              · rw [eX_NoPot]; exact kit_ref gd_NoPot gt_NoPot gs_NoPot ie_NoPot_noPot
            · cases hc; refine ⟨?_, ?_⟩
              · rw [eX_BadDay]; exact ⟨eg_BadDay, ek_BadDay, es_BadDay, ed_BadDay, ea_BadDay, spc, tkc, em_BadDay⟩
              · rw [eX_BadDay]; exact kit_ref gd_NoPot gt_NoPot gs_NoPot ie_NoPot_badDay
            · cases hc
      isE_NoState := by
            intro c b hc
            unfold isE_NoState at hc
            split at hc
            · cases hc; refine ⟨?_, ?_⟩
              · rw [eX_NoState]; exact ⟨eg_NoState, ek_NoState, es_NoState, ed_NoState, ea_NoState, spc, tkc, em_NoState⟩
              · rw [eX_NoState]; exact kit_ref gd_NoState gt_NoState gs_NoState ie_NoState_noState
            · cases hc; refine ⟨?_, ?_⟩
              · rw [eX_NoPot]; exact ⟨eg_NoPot, ek_NoPot, es_NoPot, ed_NoPot, ea_NoPot, spc, tkc, em_NoPot⟩
              · rw [eX_NoPot]; exact kit_ref gd_NoState gt_NoState gs_NoState ie_NoState_noPot
            · cases hc; refine ⟨?_, ?_⟩
              · rw [eX_BadDay]; exact ⟨eg_BadDay, ek_BadDay, es_BadDay, ed_BadDay, ea_BadDay, spc, tkc, em_BadDay⟩
              · rw [eX_BadDay]; exact kit_ref gd_NoState gt_NoState gs_NoState ie_NoState_badDay
            · cases hc
      isE_TooMany := by
            intro c b hc
            unfold isE_TooMany at hc
            split at hc
            · cases hc; refine ⟨?_, ?_⟩
              · rw [eX_NoState]; exact ⟨eg_NoState, ek_NoState, es_NoState, ed_NoState, ea_NoState, spc, tkc, em_NoState⟩
              · rw [eX_NoState]; exact kit_ref gd_TooMany gt_TooMany gs_TooMany ie_TooMany_noState
            · cases hc; refine ⟨?_, ?_⟩
              · rw [eX_NoPot]; exact ⟨eg_NoPot, ek_NoPot, es_NoPot, ed_NoPot, ea_NoPot, spc, tkc, em_NoPot⟩
              · rw [eX_NoPot]; exact kit_ref gd_TooMany gt_TooMany gs_TooMany ie_TooMany_noPot
            · cases hc; refine ⟨?_, ?_⟩
              · rw [eX_BadDay]; exact ⟨eg_BadDay, ek_BadDay, es_BadDay, ed_BadDay, ea_BadDay, spc, tkc, em_BadDay⟩
              · rw [eX_BadDay]; exact kit_ref gd_TooMany gt_TooMany gs_TooMany ie_TooMany_badDay
            · cases hc
      isE_ValueError := by
            intro c b hc
            unfold isE_ValueError at hc
            split at hc
            · cases hc; refine ⟨?_, ?_⟩
              · rw [eX_NoState]; exact ⟨eg_NoState, ek_NoState, es_NoState, ed_NoState, ea_NoState, spc, tkc, em_NoState⟩
              · rw [eX_NoState]; exact kit_ve ie_ValueError_noState
            · cases hc; refine ⟨?_, ?_⟩
              · rw [eX_NoPot]; exact ⟨eg_NoPot, ek_NoPot, es_NoPot, ed_NoPot, ea_NoPot, spc, tkc, em_NoPot⟩
              · rw [eX_NoPot]; exact kit_ve ie_ValueError_noPot
            · cases hc; refine ⟨?_, ?_⟩
              · rw [eX_BadDay]; exact ⟨eg_BadDay, ek_BadDay, es_BadDay, ed_BadDay, ea_BadDay, spc, tkc, em_BadDay⟩
              · rw [eX_BadDay]; exact kit_ve ie_ValueError_badDay
            · cases hc
      ct_GardenError := by
            intro c b hc
            unfold ct_GardenError at hc
            split at hc
            · cases hc; rw [eX_NoState]; exact PySem.W.exm_ref gb_GardenError gd_GardenError gt_GardenError ct_GardenError_noState
            · cases hc; rw [eX_NoPot]; exact PySem.W.exm_ref gb_GardenError gd_GardenError gt_GardenError ct_GardenError_noPot
            · cases hc; rw [eX_BadDay]; exact PySem.W.exm_ref gb_GardenError gd_GardenError gt_GardenError ct_GardenError_badDay
            · cases hc
      x_BadPot := by
            constructor <;> rw [eX_BadPot]
            · exact PySem.W.mg_of X G aX_BadPot
            · exact xe_BadPot
            · exact xk_BadPot
            · exact xs_BadPot
            · exact xt_BadPot
      x_NoPot := by
            constructor <;> rw [eX_NoPot]
            · exact PySem.W.mg_of X G aX_NoPot
            · exact xe_NoPot
            · exact xk_NoPot
            · exact xs_NoPot
            · exact xt_NoPot
      x_NoState := by
            constructor <;> rw [eX_NoState]
            · exact PySem.W.mg_of X G aX_NoState
            · exact xe_NoState
            · exact xk_NoState
            · exact xs_NoState
            · exact xt_NoState
      x_TooMany := by
            constructor <;> rw [eX_TooMany]
            · exact PySem.W.mg_of X G aX_TooMany
            · exact xe_TooMany
            · exact xk_TooMany
            · exact xs_TooMany
            · exact xt_TooMany
      xd_BadDay := by
            constructor
            · rw [eX_BadDay]; exact ⟨eg_BadDay, ek_BadDay, es_BadDay, ed_BadDay⟩
            · rw [eX_BadDay]; exact xno_BadDay }
  have F_law_cell_at := fun_mk (st := s_law_cell_at) l_law_cell_at c_law_cell_at k_law_cell_at
  have bn_law_cell_at := F_law_cell_at.binds (ps := ["_law_script", "_law_k"]) fun _ _ _ _ _ _ us hl => match us, hl with | [_, _], _ => rfl
  have ok_law_cell_at := ok_law_cell_at (P := l.prog) (w := w) (base := base) (A := A) F_law_cell_at T 
  have F_is_name := fun_mk (st := s_is_name) l_is_name c_is_name k_is_name
  have bn_is_name := F_is_name.binds (ps := ["name"]) fun _ _ _ _ _ _ us hl => match us, hl with | [_], _ => rfl
  have ok_is_name := ok_is_name (P := l.prog) (w := w) (base := base) (A := A) F_is_name T 
  have F_is_whole := fun_mk (st := s_is_whole) l_is_whole c_is_whole k_is_whole
  have bn_is_whole := F_is_whole.binds (ps := ["number"]) fun _ _ _ _ _ _ us hl => match us, hl with | [_], _ => rfl
  have ok_is_whole := ok_is_whole (P := l.prog) (w := w) (base := base) (A := A) F_is_whole T 
  have c_is_whole : Cal l.prog w K mg base A 1 "is_whole" 1 m_is_whole [] := ⟨_, _, _, _, _, _, Nat.le_refl _, ok_is_whole, PySem.W.mg_of X G a_is_whole, k_is_whole, bn_is_whole, .nil, fun _ => .nil⟩
  have F_within := fun_mk (st := s_within) l_within c_within k_within
  have bn_within := F_within.binds (ps := ["number", "low", "high"]) fun _ _ _ _ _ _ us hl => match us, hl with | [_, _, _], _ => rfl
  have ok_within := ok_within (P := l.prog) (w := w) (base := base) (A := A) F_within T c_is_whole
  have c_is_name : Cal l.prog w K mg base A 1 "is_name" 1 m_is_name [] := ⟨_, _, _, _, _, _, Nat.le_refl _, ok_is_name, PySem.W.mg_of X G a_is_name, k_is_name, bn_is_name, .nil, fun _ => .nil⟩
  have c_within : Cal l.prog w K mg base A 2 "within" 3 m_within [] := ⟨_, _, _, _, _, _, Nat.le_refl _, ok_within, PySem.W.mg_of X G a_within, k_within, bn_within, .nil, fun _ => .nil⟩
  have F_Pot_init := fun_mk (st := s_Pot_init) l_Pot_init c_Pot_init k_Pot_init
  have bn_Pot_init := F_Pot_init.binds (ps := ["self", "name", "gap"]) fun _ _ _ _ _ _ us hl => match us, hl with | [_, _, _], _ => rfl
  have ok_Pot_init_pot := ok_Pot_init (P := l.prog) (w := w) (base := base) (C := A.cl .pot) F_Pot_init T cl_Pot nn_Pot c_is_name c_within
  have ok_Pot_init_cactus := ok_Pot_init (P := l.prog) (w := w) (base := base) (C := A.cl .cactus) F_Pot_init T cl_Cactus (fun n hn => nn_Cactus n (by revert hn; simp only [Cl.names, List.mem_cons, List.not_mem_nil, or_false]; intro hn; rcases hn with rfl | rfl <;> simp)) c_is_name c_within
  have su_Pot : Sup l.prog w K mg base A 3 "Pot" (A.cl .cactus) .pot 2 mi_Pot := ⟨_, _, _, _, _, Nat.le_refl _, by rw [eC_Pot]; exact PySem.W.mg_of X G aC_Pot, by rw [eC_Pot]; exact ⟨rd_Pot, ga_Pot⟩, by rw [eC_Pot]; exact ⟨cv_Pot, rfl⟩, k_Pot_init, ok_Pot_init_cactus, bn_Pot_init⟩
  have F_Cactus_init := fun_mk (st := s_Cactus_init) l_Cactus_init c_Cactus_init k_Cactus_init
  have bn_Cactus_init := F_Cactus_init.binds (ps := ["self", "name", "gap", "rest"]) fun _ _ _ _ _ _ us hl => match us, hl with | [_, _, _, _], _ => rfl
  have ok_Cactus_init_cactus := ok_Cactus_init (P := l.prog) (w := w) (base := base) (C := A.cl .cactus) F_Cactus_init T cl_Cactus nn_Cactus su_Pot c_within
  have F_Garden_size := fun_mk (st := s_Garden_size) l_Garden_size c_Garden_size k_Garden_size
  have bn_Garden_size := F_Garden_size.binds (ps := ["self"]) fun _ _ _ _ _ _ us hl => match us, hl with | [_], _ => rfl
  have ok_Garden_size := ok_Garden_size (P := l.prog) (w := w) (base := base) (A := A) F_Garden_size T 
  have mt_size : ∀ c m, tb_size c = some m → MtD l.prog w K mg base A 1 c "size" 1 m := by
    intro c m hm; cases c
    · cases hm
    · cases hm
    · cases hm; exact ⟨cl_Garden, ⟨_, _, _, _, by decide, by rw [eC_Garden]; exact ⟨a_Garden_size, i_Garden_size, k_Garden_size⟩, ok_Garden_size, bn_Garden_size⟩, fun vs => zipNo (by decide)⟩
    · cases hm
  have F_Garden_init : FunD K "__init__" "Garden.__init__" (defArgs s_Garden_init) (defBody s_Garden_init) (defScope s_Garden_init) [V.int 1, V.int 1, V.int 0] [] f_Garden_init _ := ⟨⟨_, _, _, _, _, _, _, _, _, _, rfl, l_Garden_init, c_Garden_init, .inr ⟨by simp, T_Garden_init, _, _, _, rfl, t_Garden_init, rfl, .cons ⟨_, rfl⟩ (.cons ⟨_, rfl⟩ (.cons ⟨_, rfl⟩ (.nil)))⟩, .inl rfl⟩, k_Garden_init⟩
  have ok_Garden_init_garden := ok_Garden_init (P := l.prog) (w := w) (base := base) (C := A.cl .garden) F_Garden_init T rfl (by rw [← eA]; rfl) cl_Garden nn_Garden c_is_whole c_within mt_size
  have mk_Cactus : Mak l.prog w K mg base A 6 "Cactus" 3 .cactus mi_Cactus [] := ⟨_, _, _, _, _, _, Nat.le_refl _, by rw [← eA]; rfl, by rw [eC_Cactus]; exact ⟨mks_Cactus, a_Cactus_init, i_Cactus_init, kc_Cactus⟩, ok_Cactus_init_cactus, by rw [eC_Cactus]; exact PySem.W.mg_of X G aC_Cactus, bn_Cactus_init, .nil, fun _ => .nil⟩
  obtain ⟨ds_mk_Garden, hv_mk_Garden, hb_mk_Garden⟩ := F_Garden_init.binds1 (ps := ["self", "pots", "cans", "week", "closed"]) 5 3 (by simp) (by simp) (fun T kV dc pm an cd ct us its hu hi => match us, its, hu, hi with | [_, _, _, _, _], [_, _, _], _, _ => ⟨_, rfl, rfl⟩)
  have mk_Garden : Mak l.prog w K mg base A 4 "Garden" 4 .garden mi_Garden [] := ⟨_, _, _, _, _, _, Nat.le_refl _, by rw [← eA]; rfl, by rw [eC_Garden]; exact ⟨mks_Garden, a_Garden_init, i_Garden_init, kc_Garden⟩, ok_Garden_init_garden, by rw [eC_Garden]; exact PySem.W.mg_of X G aC_Garden, hb_mk_Garden, hv_mk_Garden, fun _ => .nil⟩
  have mk_Pot : Mak l.prog w K mg base A 4 "Pot" 2 .pot mi_Pot [] := ⟨_, _, _, _, _, _, Nat.le_refl _, by rw [← eA]; rfl, by rw [eC_Pot]; exact ⟨mks_Pot, a_Pot_init, i_Pot_init, kc_Pot⟩, ok_Pot_init_pot, by rw [eC_Pot]; exact PySem.W.mg_of X G aC_Pot, bn_Pot_init, .nil, fun _ => .nil⟩
  have F_law_garden := fun_mk (st := s_law_garden) l_law_garden c_law_garden k_law_garden
  have bn_law_garden := F_law_garden.binds (ps := ["_law_spec_here"]) fun _ _ _ _ _ _ us hl => match us, hl with | [_], _ => rfl
  have ok_law_garden := ok_law_garden (P := l.prog) (w := w) (base := base) (A := A) F_law_garden T mk_Cactus mk_Garden mk_Pot
  have F_law_sorts := fun_mk (st := s_law_sorts) l_law_sorts c_law_sorts k_law_sorts
  have bn_law_sorts := F_law_sorts.binds (ps := ["_law_error"]) fun _ _ _ _ _ _ us hl => match us, hl with | [_], _ => rfl
  have ok_law_sorts := ok_law_sorts (P := l.prog) (w := w) (base := base) (A := A) F_law_sorts T 
  have ce_law_sorts : CalE l.prog w K mg base A 1 "_law_sorts" m_law_sorts := ⟨_, _, _, _, Nat.le_refl _, ok_law_sorts, PySem.W.mg_of X G a_law_sorts, k_law_sorts, bn_law_sorts⟩
  have F_law_refusal := fun_mk (st := s_law_refusal) l_law_refusal c_law_refusal k_law_refusal
  have bn_law_refusal := F_law_refusal.binds (ps := ["_law_error"]) fun _ _ _ _ _ _ us hl => match us, hl with | [_], _ => rfl
  have ok_law_refusal := ok_law_refusal (P := l.prog) (w := w) (base := base) (A := A) F_law_refusal T ce_law_sorts
  have F_law_told := fun_mk (st := s_law_told) l_law_told c_law_told k_law_told
  have bn_law_told := F_law_told.binds (ps := ["_law_due"]) fun _ _ _ _ _ _ us hl => match us, hl with | [_], _ => rfl
  have ok_law_told := ok_law_told (P := l.prog) (w := w) (base := base) (A := A) F_law_told T 
  have F_law_behind := fun_mk (st := s_law_behind) l_law_behind c_law_behind k_law_behind
  have bn_law_behind := F_law_behind.binds (ps := ["_law_spec_here", "_law_state", "_law_wet"]) fun _ _ _ _ _ _ us hl => match us, hl with | [_, _, _], _ => rfl
  have ok_law_behind := ok_law_behind (P := l.prog) (w := w) (base := base) (A := A) F_law_behind T 
  have c_law_behind : Cal l.prog w K mg base A 1 "_law_behind" 3 m_law_behind [] := ⟨_, _, _, _, _, _, Nat.le_refl _, ok_law_behind, PySem.W.mg_of X G a_law_behind, k_law_behind, bn_law_behind, .nil, fun _ => .nil⟩
  have F_law_walked := fun_mk (st := s_law_walked) l_law_walked c_law_walked k_law_walked
  have bn_law_walked := F_law_walked.binds (ps := ["_law_spec_here", "_law_rows_here", "_law_state", "_law_first"]) fun _ _ _ _ _ _ us hl => match us, hl with | [_, _, _, _], _ => rfl
  have ok_law_walked := ok_law_walked (P := l.prog) (w := w) (base := base) (A := A) F_law_walked T c_law_behind
  have F_BadDay_init := fun_mk (st := s_BadDay_init) l_BadDay_init c_BadDay_init k_BadDay_init
  have bn_BadDay_init := F_BadDay_init.binds (ps := ["self", "day"]) fun _ _ _ _ _ _ us hl => match us, hl with | [_, _], _ => rfl
  have ok_BadDay_init := ok_BadDay_init (P := l.prog) (w := w) (base := base) (C := XBadDay) F_BadDay_init (PySem.W.mg_of X G aX_GardenError) ⟨rdx_GardenError, gax_GardenError⟩ cvx_GardenError
  have F_Garden_number := fun_mk (st := s_Garden_number) l_Garden_number c_Garden_number k_Garden_number
  have bn_Garden_number := F_Garden_number.binds (ps := ["self", "state"]) fun _ _ _ _ _ _ us hl => match us, hl with | [_, _], _ => rfl
  have ok_Garden_number := ok_Garden_number (P := l.prog) (w := w) (base := base) (A := A) F_Garden_number T c_within
  have F_Cactus_may := fun_mk (st := s_Cactus_may) l_Cactus_may c_Cactus_may k_Cactus_may
  have bn_Cactus_may := F_Cactus_may.binds (ps := ["self", "since"]) fun _ _ _ _ _ _ us hl => match us, hl with | [_, _], _ => rfl
  have ok_Cactus_may := ok_Cactus_may (P := l.prog) (w := w) (base := base) (A := A) F_Cactus_may T 
  have F_Pot_may := fun_mk (st := s_Pot_may) l_Pot_may c_Pot_may k_Pot_may
  have bn_Pot_may := F_Pot_may.binds (ps := ["self", "since"]) fun _ _ _ _ _ _ us hl => match us, hl with | [_, _], _ => rfl
  have ok_Pot_may := ok_Pot_may (P := l.prog) (w := w) (base := base) (A := A) F_Pot_may T 
  have F_bits_of := fun_mk (st := s_bits_of) l_bits_of c_bits_of k_bits_of
  have bn_bits_of := F_bits_of.binds (ps := ["number"]) fun _ _ _ _ _ _ us hl => match us, hl with | [_], _ => rfl
  have ok_bits_of := ok_bits_of (P := l.prog) (w := w) (base := base) (A := A) F_bits_of T 
  have c_bits_of : Cal l.prog w K mg base A 1 "bits_of" 1 m_bits_of [] := ⟨_, _, _, _, _, _, Nat.le_refl _, ok_bits_of, PySem.W.mg_of X G a_bits_of, k_bits_of, bn_bits_of, .nil, fun _ => .nil⟩
  have mt_may : ∀ c m, tb_may c = some m → MtD l.prog w K mg base A 1 c "may" 2 m := by
    intro c m hm; cases c
    · cases hm; exact ⟨cl_Pot, ⟨_, _, _, _, by decide, by rw [eC_Pot]; exact ⟨a_Pot_may, i_Pot_may, k_Pot_may⟩, ok_Pot_may, bn_Pot_may⟩, fun vs => zipNo (by decide)⟩
    · cases hm; exact ⟨cl_Cactus, ⟨_, _, _, _, by decide, by rw [eC_Cactus]; exact ⟨a_Cactus_may, i_Cactus_may, k_Cactus_may⟩, ok_Cactus_may, bn_Cactus_may⟩, fun vs => zipNo (by decide)⟩
    · cases hm
    · cases hm
  have F_allowed := fun_mk (st := s_allowed) l_allowed c_allowed k_allowed
  have bn_allowed := F_allowed.binds (ps := ["garden", "state", "chosen"]) fun _ _ _ _ _ _ us hl => match us, hl with | [_, _, _], _ => rfl
  have ok_allowed := ok_allowed (P := l.prog) (w := w) (base := base) (A := A) F_allowed T c_bits_of mt_may
  have F_behind := fun_mk (st := s_behind) l_behind c_behind k_behind
  have bn_behind := F_behind.binds (ps := ["garden", "state", "chosen"]) fun _ _ _ _ _ _ us hl => match us, hl with | [_, _, _], _ => rfl
  have ok_behind := ok_behind (P := l.prog) (w := w) (base := base) (A := A) F_behind T 
  have F_Garden_place := fun_mk (st := s_Garden_place) l_Garden_place c_Garden_place k_Garden_place
  have bn_Garden_place := F_Garden_place.binds (ps := ["self", "name"]) fun _ _ _ _ _ _ us hl => match us, hl with | [_, _], _ => rfl
  have ok_Garden_place := ok_Garden_place (P := l.prog) (w := w) (base := base) (A := A) F_Garden_place T 
  have xf_BadDay : XclF l.prog w K mg base A 2 "BadDay" .badDay "day" := ⟨_, _, _, _, Nat.le_refl _, by rw [eX_BadDay]; exact oex_mk xo_BadDay xsa_BadDay xsb_BadDay xty_BadDay xkp_BadDay, by rw [eX_BadDay]; exact xno_BadDay, by rw [eX_BadDay]; exact a_BadDay_init, i_BadDay_init, by rw [eX_BadDay]; exact ok_BadDay_init, bn_BadDay_init, by rw [eX_BadDay]; exact PySem.W.mg_of X G aX_BadDay⟩
  have mt_place : ∀ c m, tb_place c = some m → MtD l.prog w K mg base A 1 c "place" 2 m := by
    intro c m hm; cases c
    · cases hm
    · cases hm
    · cases hm; exact ⟨cl_Garden, ⟨_, _, _, _, by decide, by rw [eC_Garden]; exact ⟨a_Garden_place, i_Garden_place, k_Garden_place⟩, ok_Garden_place, bn_Garden_place⟩, fun vs => zipNo (by decide)⟩
    · cases hm
  have F_chosen_by : FunD K "chosen_by" "chosen_by" (defArgs s_chosen_by) (defBody s_chosen_by) (defScope s_chosen_by) [V.int 0] [] f_chosen_by _ := ⟨⟨_, _, _, _, _, _, _, _, _, _, rfl, l_chosen_by, c_chosen_by, .inr ⟨by simp, T_chosen_by, _, _, _, rfl, t_chosen_by, rfl, .cons ⟨_, rfl⟩ (.nil)⟩, .inl rfl⟩, k_chosen_by⟩
  have ok_chosen_by := ok_chosen_by (P := l.prog) (w := w) (base := base) (A := A) F_chosen_by T xf_BadDay mt_place
  have F_dry_pot := fun_mk (st := s_dry_pot) l_dry_pot c_dry_pot k_dry_pot
  have bn_dry_pot := F_dry_pot.binds (ps := ["garden", "state", "chosen"]) fun _ _ _ _ _ _ us hl => match us, hl with | [_, _, _], _ => rfl
  have ok_dry_pot := ok_dry_pot (P := l.prog) (w := w) (base := base) (A := A) F_dry_pot T 
  have c_allowed : Cal l.prog w K mg base A 2 "allowed" 3 m_allowed [] := ⟨_, _, _, _, _, _, Nat.le_refl _, ok_allowed, PySem.W.mg_of X G a_allowed, k_allowed, bn_allowed, .nil, fun _ => .nil⟩
  have c_behind : Cal l.prog w K mg base A 1 "behind" 3 m_behind [] := ⟨_, _, _, _, _, _, Nat.le_refl _, ok_behind, PySem.W.mg_of X G a_behind, k_behind, bn_behind, .nil, fun _ => .nil⟩
  obtain ⟨ds_c_chosen_by, hv_c_chosen_by, hb_c_chosen_by⟩ := F_chosen_by.binds1 (ps := ["garden", "names", "day"]) 3 1 (by simp) (by simp) (fun T kV dc pm an cd ct us its hu hi => match us, its, hu, hi with | [_, _, _], [_], _, _ => ⟨_, rfl, rfl⟩)
  have c_chosen_by : Cal l.prog w K mg base A 3 "chosen_by" 3 m_chosen_by [] := ⟨_, _, _, _, _, _, Nat.le_refl _, ok_chosen_by, PySem.W.mg_of X G a_chosen_by, k_chosen_by, hb_c_chosen_by, hv_c_chosen_by, fun _ => .nil⟩
  have c_dry_pot : Cal l.prog w K mg base A 1 "dry_pot" 3 m_dry_pot [] := ⟨_, _, _, _, _, _, Nat.le_refl _, ok_dry_pot, PySem.W.mg_of X G a_dry_pot, k_dry_pot, bn_dry_pot, .nil, fun _ => .nil⟩
  have mt_number : ∀ c m, tb_number c = some m → MtD l.prog w K mg base A 3 c "number" 2 m := by
    intro c m hm; cases c
    · cases hm
    · cases hm
    · cases hm; exact ⟨cl_Garden, ⟨_, _, _, _, by decide, by rw [eC_Garden]; exact ⟨a_Garden_number, i_Garden_number, k_Garden_number⟩, ok_Garden_number, bn_Garden_number⟩, fun vs => zipNo (by decide)⟩
    · cases hm
  have F_followed : FunD K "followed" "followed" (defArgs s_followed) (defBody s_followed) (defScope s_followed) [V.int 0] [] f_followed _ := ⟨⟨_, _, _, _, _, _, _, _, _, _, rfl, l_followed, c_followed, .inr ⟨by simp, T_followed, _, _, _, rfl, t_followed, rfl, .cons ⟨_, rfl⟩ (.nil)⟩, .inl rfl⟩, k_followed⟩
  have ok_followed := ok_followed (P := l.prog) (w := w) (base := base) (A := A) F_followed T c_allowed c_behind c_chosen_by c_dry_pot xf_BadDay mt_number
  have F_Garden_fresh := fun_mk (st := s_Garden_fresh) l_Garden_fresh c_Garden_fresh k_Garden_fresh
  have bn_Garden_fresh := F_Garden_fresh.binds (ps := ["self"]) fun _ _ _ _ _ _ us hl => match us, hl with | [_], _ => rfl
  have ok_Garden_fresh := ok_Garden_fresh (P := l.prog) (w := w) (base := base) (A := A) F_Garden_fresh T 
  obtain ⟨ds_c_followed_1, hv_c_followed_1, hb_c_followed_1⟩ := F_followed.binds1 (ps := ["garden", "rows", "state", "first"]) 3 0 (by simp) (by simp) (fun T kV dc pm an cd ct us its hu hi => match us, its, hu, hi with | [_, _, _], [_], _, _ => ⟨_, rfl, rfl⟩)
  have c_followed_1 : Cal l.prog w K mg base A 4 "followed" 4 m_followed [.int 0] := ⟨_, _, _, _, _, _, Nat.le_refl _, ok_followed, PySem.W.mg_of X G a_followed, k_followed, hb_c_followed_1, hv_c_followed_1, fun _ => .cons (.int _) (.nil)⟩
  have mt_fresh : ∀ c m, tb_fresh c = some m → MtD l.prog w K mg base A 1 c "fresh" 1 m := by
    intro c m hm; cases c
    · cases hm
    · cases hm
    · cases hm; exact ⟨cl_Garden, ⟨_, _, _, _, by decide, by rw [eC_Garden]; exact ⟨a_Garden_fresh, i_Garden_fresh, k_Garden_fresh⟩, ok_Garden_fresh, bn_Garden_fresh⟩, fun vs => zipNo (by decide)⟩
    · cases hm
  have F_kept := fun_mk (st := s_kept) l_kept c_kept k_kept
  have bn_kept := F_kept.binds (ps := ["garden", "rows"]) fun _ _ _ _ _ _ us hl => match us, hl with | [_, _], _ => rfl
  have ok_kept := ok_kept (P := l.prog) (w := w) (base := base) (A := A) F_kept T c_followed_1 mt_fresh
  obtain ⟨ds_c_followed, hv_c_followed, hb_c_followed⟩ := F_followed.binds1 (ps := ["garden", "rows", "state", "first"]) 4 1 (by simp) (by simp) (fun T kV dc pm an cd ct us its hu hi => match us, its, hu, hi with | [_, _, _, _], [_], _, _ => ⟨_, rfl, rfl⟩)
  have c_followed : Cal l.prog w K mg base A 4 "followed" 4 m_followed [] := ⟨_, _, _, _, _, _, Nat.le_refl _, ok_followed, PySem.W.mg_of X G a_followed, k_followed, hb_c_followed, hv_c_followed, fun _ => .nil⟩
  have c_kept : Cal l.prog w K mg base A 5 "kept" 2 m_kept [] := ⟨_, _, _, _, _, _, Nat.le_refl _, ok_kept, PySem.W.mg_of X G a_kept, k_kept, bn_kept, .nil, fun _ => .nil⟩
  have c_law_told : Cal l.prog w K mg base A 1 "_law_told" 1 m_law_told [] := ⟨_, _, _, _, _, _, Nat.le_refl _, ok_law_told, PySem.W.mg_of X G a_law_told, k_law_told, bn_law_told, .nil, fun _ => .nil⟩
  have c_law_walked : Cal l.prog w K mg base A 2 "_law_walked" 4 m_law_walked [] := ⟨_, _, _, _, _, _, Nat.le_refl _, ok_law_walked, PySem.W.mg_of X G a_law_walked, k_law_walked, bn_law_walked, .nil, fun _ => .nil⟩
  have ce_law_refusal : CalE l.prog w K mg base A 2 "_law_refusal" m_law_refusal := ⟨_, _, _, _, Nat.le_refl _, ok_law_refusal, PySem.W.mg_of X G a_law_refusal, k_law_refusal, bn_law_refusal⟩
  have F_law_right := fun_mk (st := s_law_right) l_law_right c_law_right k_law_right
  have bn_law_right := F_law_right.binds (ps := ["_law_garden_here", "_law_spec_here", "_law_rows_here", "_law_state", "_law_first", "_law_way"]) fun _ _ _ _ _ _ us hl => match us, hl with | [_, _, _, _, _, _], _ => rfl
  have ok_law_right := ok_law_right (P := l.prog) (w := w) (base := base) (A := A) F_law_right T c_followed c_followed_1 c_kept c_law_told c_law_walked ce_law_refusal
  have F_law_draw := fun_mk (st := s_law_draw) l_law_draw c_law_draw k_law_draw
  have bn_law_draw := F_law_draw.binds (ps := ["_law_cell", "_law_k", "_law_many"]) fun _ _ _ _ _ _ us hl => match us, hl with | [_, _, _], _ => rfl
  have ok_law_draw := ok_law_draw (P := l.prog) (w := w) (base := base) (A := A) F_law_draw T 
  have F_law_steps := fun_mk (st := s_law_steps) l_law_steps c_law_steps k_law_steps
  have bn_law_steps := F_law_steps.binds (ps := ["_law_spec_here", "_law_state"]) fun _ _ _ _ _ _ us hl => match us, hl with | [_, _], _ => rfl
  have ok_law_steps := ok_law_steps (P := l.prog) (w := w) (base := base) (A := A) F_law_steps T c_law_behind
  have c_law_cell_at : Cal l.prog w K mg base A 1 "_law_cell_at" 2 m_law_cell_at [] := ⟨_, _, _, _, _, _, Nat.le_refl _, ok_law_cell_at, PySem.W.mg_of X G a_law_cell_at, k_law_cell_at, bn_law_cell_at, .nil, fun _ => .nil⟩
  have c_law_draw : Cal l.prog w K mg base A 1 "_law_draw" 3 m_law_draw [] := ⟨_, _, _, _, _, _, Nat.le_refl _, ok_law_draw, PySem.W.mg_of X G a_law_draw, k_law_draw, bn_law_draw, .nil, fun _ => .nil⟩
  have c_law_steps : Cal l.prog w K mg base A 2 "_law_steps" 2 m_law_steps [] := ⟨_, _, _, _, _, _, Nat.le_refl _, ok_law_steps, PySem.W.mg_of X G a_law_steps, k_law_steps, bn_law_steps, .nil, fun _ => .nil⟩
  have F_law_rows := fun_mk (st := s_law_rows) l_law_rows c_law_rows k_law_rows
  have bn_law_rows := F_law_rows.binds (ps := ["_law_spec_here", "_law_script", "_law_first", "_law_many", "_law_wild"]) fun _ _ _ _ _ _ us hl => match us, hl with | [_, _, _, _, _], _ => rfl
  have ok_law_rows := ok_law_rows (P := l.prog) (w := w) (base := base) (A := A) F_law_rows T c_law_cell_at c_law_draw c_law_steps
  have F_law_spec := fun_mk (st := s_law_spec) l_law_spec c_law_spec k_law_spec
  have bn_law_spec := F_law_spec.binds (ps := ["_law_script", "_law_first"]) fun _ _ _ _ _ _ us hl => match us, hl with | [_, _], _ => rfl
  have ok_law_spec := ok_law_spec (P := l.prog) (w := w) (base := base) (A := A) F_law_spec T c_law_cell_at c_law_draw
  have F_law_states := fun_mk (st := s_law_states) l_law_states c_law_states k_law_states
  have bn_law_states := F_law_states.binds (ps := ["_law_spec_here"]) fun _ _ _ _ _ _ us hl => match us, hl with | [_], _ => rfl
  have ok_law_states := ok_law_states (P := l.prog) (w := w) (base := base) (A := A) F_law_states T 
  have c_law_garden : Cal l.prog w K mg base A 7 "_law_garden" 1 m_law_garden [] := ⟨_, _, _, _, _, _, Nat.le_refl _, ok_law_garden, PySem.W.mg_of X G a_law_garden, k_law_garden, bn_law_garden, .nil, fun _ => .nil⟩
  have c_law_rows : Cal l.prog w K mg base A 3 "_law_rows" 5 m_law_rows [] := ⟨_, _, _, _, _, _, Nat.le_refl _, ok_law_rows, PySem.W.mg_of X G a_law_rows, k_law_rows, bn_law_rows, .nil, fun _ => .nil⟩
  have c_law_spec : Cal l.prog w K mg base A 2 "_law_spec" 2 m_law_spec [] := ⟨_, _, _, _, _, _, Nat.le_refl _, ok_law_spec, PySem.W.mg_of X G a_law_spec, k_law_spec, bn_law_spec, .nil, fun _ => .nil⟩
  have c_law_states : Cal l.prog w K mg base A 1 "_law_states" 1 m_law_states [] := ⟨_, _, _, _, _, _, Nat.le_refl _, ok_law_states, PySem.W.mg_of X G a_law_states, k_law_states, bn_law_states, .nil, fun _ => .nil⟩
  have gd_law_right : CalG l.prog w K mg base A 6 "_law_right" 6 m_law_right := ⟨_, _, _, _, Nat.le_refl _, ok_law_right, PySem.W.mg_of X G a_law_right, k_law_right, bn_law_right⟩
  have F_law := fun_mk (st := s_law) l_law c_law k_law
  have bn_law := F_law.binds (ps := ["_law_script"]) fun _ _ _ _ _ _ us hl => match us, hl with | [_], _ => rfl
  have ok_law := ok_law (P := l.prog) (w := w) (base := base) (A := A) F_law T c_followed_1 c_kept c_law_cell_at c_law_garden c_law_rows c_law_spec c_law_states ce_law_sorts gd_law_right
  refine ok_law.imp fun vs H Q E hs => ?_
  obtain ⟨a, ns, rfl, sq, hn, hq⟩ := hs
  exact ⟨H, [.scr ns], _, Ex.refl H, .cons (.scr sq) .nil, rfl, plain ns hn, fun F' H' v G r => by cases r; exact hq _ rfl H'⟩
theorem walk {l : PySem.W.OpenLaw} {q : Program} {loose : List Str} {XP : (Str → Option Value) → Heap → Prop} {YP : World → Heap → Prop} {d : DefRec} {K : Params → PySem.W.Frag} (hn : l.most = some 63) (hdf : d.params.defaults = [])
    (hY : ∀ (w : World) (h : Heap), YP w h → (K w.params).In h)
    (F : ∀ (w : World) (mg : Str → Option Value) (fa : Addr) (h : Heap), (K w.params).In h → h.Ns mainGlobals mg → mg d.name = some (.ref fa) →
      ∃ fd : FuncData, (∀ (s : Shared) (u : Value), BindsTo s fd ⟨[u], []⟩ [("_law_script", u)]) ∧ ∀ base : Heap, (K w.params).In base → base.Ns mainGlobals mg → FnG l.prog w (K w.params) mg base (L2N.CX l.prog w) 8 fa fd ["_law_script"] (spLaw (K w.params))) :
    PySem.W.WalkO q loose XP YP l.row.toRowW d [] (fun f vs => PySem.call f vs) :=
  walk_gd (n := 63) (k := 8) (x := "_law_script") (C := fun w => L2N.CX l.prog w) (sp := fun w => spLaw (K w.params)) hn (by decide) hdf ⟨by decide, by decide, by decide⟩ hY F (fun _ _ a ns hl hS => ⟨a, ns, rfl, hS, hl, fun v hv _ => hv⟩) fun _ _ _ _ _ z => no_cx z
end K06
open PySem PySem.W PyProof.Rows
set_option maxRecDepth 100000 in
set_option maxHeartbeats 0 in
theorem PySem.Challenge.cw_thirstwise_k06_plans_followed_holds : PySem.Challenge.rw_thirstwise_k06_plans_followed.Holds := by
  w_on; o_law; k_head; (case hw => w_witness2)
  k_fill
  refine K06.walk (l := PySem.Challenge.rw_thirstwise_k06_plans_followed) rfl rfl (fun w h Y => PySem.W.kIn_of Y) ?F
  case F =>
    intro w mg fa h KX G hmg
    refine' K06.all_mk K06.plain KX G hmg ?aC_Pot ?pg_Pot ?hd_Pot ?po_Pot ?sa_Pot ?ca_Pot ?mr_Pot ?ty_Pot ?ss_Pot ?kc_Pot ?no_Pot_name ?no_Pot_gap ?mks_Pot ?aC_Cactus ?pg_Cactus ?hd_Cactus ?po_Cactus ?sa_Cactus ?ca_Cactus ?mr_Cactus ?ty_Cactus ?ss_Cactus ?kc_Cactus ?no_Cactus_name ?no_Cactus_gap ?no_Cactus_rest ?mks_Cactus ?aC_Garden ?pg_Garden ?hd_Garden ?po_Garden ?sa_Garden ?ca_Garden ?mr_Garden ?ty_Garden ?ss_Garden ?kc_Garden ?no_Garden_pots ?no_Garden_cans ?no_Garden_week ?no_Garden_closed ?no_Garden_order ?mks_Garden ?spc ?tkc ?aX_BadDay ?eg_BadDay ?ek_BadDay ?es_BadDay ?ed_BadDay ?ea_BadDay ?em_BadDay ?aX_BadPot ?xe_BadPot ?xk_BadPot ?xs_BadPot ?xt_BadPot ?aX_NoPot ?xe_NoPot ?xk_NoPot ?xs_NoPot ?xt_NoPot ?eg_NoPot ?ek_NoPot ?es_NoPot ?ed_NoPot ?ea_NoPot ?em_NoPot ?aX_NoState ?xe_NoState ?xk_NoState ?xs_NoState ?xt_NoState ?eg_NoState ?ek_NoState ?es_NoState ?ed_NoState ?ea_NoState ?em_NoState ?aX_TooMany ?xe_TooMany ?xk_TooMany ?xs_TooMany ?xt_TooMany ?xo_BadDay ?xsa_BadDay ?xsb_BadDay ?xty_BadDay ?xkp_BadDay ?xno_BadDay ?aX_BadRow ?aX_GardenError ?gd_BadDay ?gt_BadDay ?gs_BadDay ?gb_BadDay ?gd_BadPot ?gt_BadPot ?gs_BadPot ?gb_BadPot ?gd_BadRow ?gt_BadRow ?gs_BadRow ?gb_BadRow ?gd_GardenError ?gt_GardenError ?gs_GardenError ?gb_GardenError ?gd_NoPot ?gt_NoPot ?gs_NoPot ?gb_NoPot ?gd_NoState ?gt_NoState ?gs_NoState ?gb_NoState ?gd_TooMany ?gt_TooMany ?gs_TooMany ?gb_TooMany ?ie_BadDay_noState ?ie_BadDay_noPot ?ie_BadDay_badDay ?ie_BadPot_noState ?ie_BadPot_noPot ?ie_BadPot_badDay ?ie_BadRow_noState ?ie_BadRow_noPot ?ie_BadRow_badDay ?ie_NoPot_noState ?ie_NoPot_noPot ?ie_NoPot_badDay ?ie_NoState_noState ?ie_NoState_noPot ?ie_NoState_badDay ?ie_TooMany_noState ?ie_TooMany_noPot ?ie_TooMany_badDay ?ie_ValueError_noState ?ie_ValueError_noPot ?ie_ValueError_badDay ?ct_GardenError_noState ?ct_GardenError_noPot ?ct_GardenError_badDay ?b_ValueError ?b_all ?b_bool ?b_divmod ?b_int ?b_isinstance ?b_len ?b_list ?b_max ?b_min ?b_range ?b_str ?b_tuple ?g_LETTERS ?g_LONGEST ?g_LONGEST_WEEK ?g_MOST_POTS ?g_MOST_STATES ?is_Pot_o_cactus ?is_Pot_o_pot ?rdx_GardenError ?gax_GardenError ?cvx_GardenError ?a_law_cell_at ?l_law_cell_at ?c_law_cell_at ?k_law_cell_at ?a_is_name ?l_is_name ?c_is_name ?k_is_name ?a_is_whole ?l_is_whole ?c_is_whole ?k_is_whole ?a_within ?l_within ?c_within ?k_within ?a_Pot_init ?i_Pot_init ?l_Pot_init ?c_Pot_init ?k_Pot_init ?a_Cactus_init ?i_Cactus_init ?l_Cactus_init ?c_Cactus_init ?k_Cactus_init ?a_Garden_size ?i_Garden_size ?l_Garden_size ?c_Garden_size ?k_Garden_size ?a_Garden_init ?i_Garden_init ?l_Garden_init ?c_Garden_init ?k_Garden_init ?t_Garden_init ?a_law_garden ?l_law_garden ?c_law_garden ?k_law_garden ?a_law_sorts ?l_law_sorts ?c_law_sorts ?k_law_sorts ?a_law_refusal ?l_law_refusal ?c_law_refusal ?k_law_refusal ?a_law_told ?l_law_told ?c_law_told ?k_law_told ?a_law_behind ?l_law_behind ?c_law_behind ?k_law_behind ?a_law_walked ?l_law_walked ?c_law_walked ?k_law_walked ?a_BadDay_init ?i_BadDay_init ?l_BadDay_init ?c_BadDay_init ?k_BadDay_init ?a_Garden_number ?i_Garden_number ?l_Garden_number ?c_Garden_number ?k_Garden_number ?a_Cactus_may ?i_Cactus_may ?l_Cactus_may ?c_Cactus_may ?k_Cactus_may ?a_Pot_may ?i_Pot_may ?l_Pot_may ?c_Pot_may ?k_Pot_may ?a_bits_of ?l_bits_of ?c_bits_of ?k_bits_of ?a_allowed ?l_allowed ?c_allowed ?k_allowed ?a_behind ?l_behind ?c_behind ?k_behind ?a_Garden_place ?i_Garden_place ?l_Garden_place ?c_Garden_place ?k_Garden_place ?a_chosen_by ?l_chosen_by ?c_chosen_by ?k_chosen_by ?t_chosen_by ?a_dry_pot ?l_dry_pot ?c_dry_pot ?k_dry_pot ?a_followed ?l_followed ?c_followed ?k_followed ?t_followed ?a_Garden_fresh ?i_Garden_fresh ?l_Garden_fresh ?c_Garden_fresh ?k_Garden_fresh ?a_kept ?l_kept ?c_kept ?k_kept ?a_law_right ?l_law_right ?c_law_right ?k_law_right ?a_law_draw ?l_law_draw ?c_law_draw ?k_law_draw ?a_law_steps ?l_law_steps ?c_law_steps ?k_law_steps ?a_law_rows ?l_law_rows ?c_law_rows ?k_law_rows ?a_law_spec ?l_law_spec ?c_law_spec ?k_law_spec ?a_law_states ?l_law_states ?c_law_states ?k_law_states ?a_law ?l_law ?c_law ?k_law ?rd_Pot ?ga_Pot ?cv_Pot
    (case aC_Pot => k_is)
    (case pg_Pot => k_is)
    (case hd_Pot => k_is)
    (case po_Pot => k_is)
    (case sa_Pot => k_is)
    (case ca_Pot => k_is)
    (case mr_Pot => k_is)
    (case ty_Pot => k_is)
    (case ss_Pot => k_is)
    (case kc_Pot => k_is)
    (case no_Pot_name => k_is)
    (case no_Pot_gap => k_is)
    (case mks_Pot => k_is)
    (case aC_Cactus => k_is)
    (case pg_Cactus => k_is)
    (case hd_Cactus => k_is)
    (case po_Cactus => k_is)
    (case sa_Cactus => k_is)
    (case ca_Cactus => k_is)
    (case mr_Cactus => k_is)
    (case ty_Cactus => k_is)
    (case ss_Cactus => k_is)
    (case kc_Cactus => k_is)
    (case no_Cactus_name => k_is)
    (case no_Cactus_gap => k_is)
    (case no_Cactus_rest => k_is)
    (case mks_Cactus => k_is)
    (case aC_Garden => k_is)
    (case pg_Garden => k_is)
    (case hd_Garden => k_is)
    (case po_Garden => k_is)
    (case sa_Garden => k_is)
    (case ca_Garden => k_is)
    (case mr_Garden => k_is)
    (case ty_Garden => k_is)
    (case ss_Garden => k_is)
    (case kc_Garden => k_is)
    (case no_Garden_pots => k_is)
    (case no_Garden_cans => k_is)
    (case no_Garden_week => k_is)
    (case no_Garden_closed => k_is)
    (case no_Garden_order => k_is)
    (case mks_Garden => k_is)
    (case spc => k_is)
    (case tkc => k_is)
    (case aX_BadDay => k_is)
    (case eg_BadDay => k_is)
    (case ek_BadDay => k_is)
    (case es_BadDay => k_is)
    (case ed_BadDay => k_is)
    (case ea_BadDay => k_is)
    (case em_BadDay => k_is)
    (case aX_BadPot => k_is)
    (case xe_BadPot => k_exc)
    (case xk_BadPot => k_is)
    (case xs_BadPot => k_is)
    (case xt_BadPot => k_is)
    (case aX_NoPot => k_is)
    (case xe_NoPot => k_exc)
    (case xk_NoPot => k_is)
    (case xs_NoPot => k_is)
    (case xt_NoPot => k_is)
    (case eg_NoPot => k_is)
    (case ek_NoPot => k_is)
    (case es_NoPot => k_is)
    (case ed_NoPot => k_is)
    (case ea_NoPot => k_is)
    (case em_NoPot => k_is)
    (case aX_NoState => k_is)
    (case xe_NoState => k_exc)
    (case xk_NoState => k_is)
    (case xs_NoState => k_is)
    (case xt_NoState => k_is)
    (case eg_NoState => k_is)
    (case ek_NoState => k_is)
    (case es_NoState => k_is)
    (case ed_NoState => k_is)
    (case ea_NoState => k_is)
    (case em_NoState => k_is)
    (case aX_TooMany => k_is)
    (case xe_TooMany => k_exc)
    (case xk_TooMany => k_is)
    (case xs_TooMany => k_is)
    (case xt_TooMany => k_is)
    (case xo_BadDay => kernel_rfl)
    (case xsa_BadDay => k_is)
    (case xsb_BadDay => k_is)
    (case xty_BadDay => k_is)
    (case xkp_BadDay => k_is)
    (case xno_BadDay => k_is)
    (case aX_BadRow => k_is)
    (case aX_GardenError => k_is)
    (case gd_BadDay => k_is)
    (case gt_BadDay => k_is)
    (case gs_BadDay => k_is)
    (case gb_BadDay => k_is)
    (case gd_BadPot => k_is)
    (case gt_BadPot => k_is)
    (case gs_BadPot => k_is)
    (case gb_BadPot => k_is)
    (case gd_BadRow => k_is)
    (case gt_BadRow => k_is)
    (case gs_BadRow => k_is)
    (case gb_BadRow => k_is)
    (case gd_GardenError => k_is)
    (case gt_GardenError => k_is)
    (case gs_GardenError => k_is)
    (case gb_GardenError => k_is)
    (case gd_NoPot => k_is)
    (case gt_NoPot => k_is)
    (case gs_NoPot => k_is)
    (case gb_NoPot => k_is)
    (case gd_NoState => k_is)
    (case gt_NoState => k_is)
    (case gs_NoState => k_is)
    (case gb_NoState => k_is)
    (case gd_TooMany => k_is)
    (case gt_TooMany => k_is)
    (case gs_TooMany => k_is)
    (case gb_TooMany => k_is)
    (case ie_BadDay_noState => k_is)
    (case ie_BadDay_noPot => k_is)
    (case ie_BadDay_badDay => k_is)
    (case ie_BadPot_noState => k_is)
    (case ie_BadPot_noPot => k_is)
    (case ie_BadPot_badDay => k_is)
    (case ie_BadRow_noState => k_is)
    (case ie_BadRow_noPot => k_is)
    (case ie_BadRow_badDay => k_is)
    (case ie_NoPot_noState => k_is)
    (case ie_NoPot_noPot => k_is)
    (case ie_NoPot_badDay => k_is)
    (case ie_NoState_noState => k_is)
    (case ie_NoState_noPot => k_is)
    (case ie_NoState_badDay => k_is)
    (case ie_TooMany_noState => k_is)
    (case ie_TooMany_noPot => k_is)
    (case ie_TooMany_badDay => k_is)
    (case ie_ValueError_noState => k_is)
    (case ie_ValueError_noPot => k_is)
    (case ie_ValueError_badDay => k_is)
    (case ct_GardenError_noState => k_is)
    (case ct_GardenError_noPot => k_is)
    (case ct_GardenError_badDay => k_is)
    (case b_ValueError => k_is)
    (case b_all => k_is)
    (case b_bool => k_is)
    (case b_divmod => k_is)
    (case b_int => k_is)
    (case b_isinstance => k_is)
    (case b_len => k_is)
    (case b_list => k_is)
    (case b_max => k_is)
    (case b_min => k_is)
    (case b_range => k_is)
    (case b_str => k_is)
    (case b_tuple => k_is)
    (case g_LETTERS => k_is)
    (case g_LONGEST => k_is)
    (case g_LONGEST_WEEK => k_is)
    (case g_MOST_POTS => k_is)
    (case g_MOST_STATES => k_is)
    (case is_Pot_o_cactus => k_is)
    (case is_Pot_o_pot => k_is)
    (case rdx_GardenError => k_is)
    (case gax_GardenError => k_is)
    (case cvx_GardenError => k_is)
    (case a_law_cell_at => k_is)
    (case l_law_cell_at => k_is)
    (case c_law_cell_at => k_is)
    (case k_law_cell_at => k_is)
    (case a_is_name => k_is)
    (case l_is_name => k_is)
    (case c_is_name => k_is)
    (case k_is_name => k_is)
    (case a_is_whole => k_is)
    (case l_is_whole => k_is)
    (case c_is_whole => k_is)
    (case k_is_whole => k_is)
    (case a_within => k_is)
    (case l_within => k_is)
    (case c_within => k_is)
    (case k_within => k_is)
    (case a_Pot_init => k_is)
    (case i_Pot_init => k_is)
    (case l_Pot_init => k_is)
    (case c_Pot_init => k_is)
    (case k_Pot_init => k_is)
    (case a_Cactus_init => k_is)
    (case i_Cactus_init => k_is)
    (case l_Cactus_init => k_is)
    (case c_Cactus_init => k_is)
    (case k_Cactus_init => k_is)
    (case a_Garden_size => k_is)
    (case i_Garden_size => k_is)
    (case l_Garden_size => k_is)
    (case c_Garden_size => k_is)
    (case k_Garden_size => k_is)
    (case a_Garden_init => k_is)
    (case i_Garden_init => k_is)
    (case l_Garden_init => k_is)
    (case c_Garden_init => k_is)
    (case k_Garden_init => k_is)
    (case t_Garden_init => k_is)
    (case a_law_garden => k_is)
    (case l_law_garden => k_is)
    (case c_law_garden => k_is)
    (case k_law_garden => k_is)
    (case a_law_sorts => k_is)
    (case l_law_sorts => k_is)
    (case c_law_sorts => k_is)
    (case k_law_sorts => k_is)
    (case a_law_refusal => k_is)
    (case l_law_refusal => k_is)
    (case c_law_refusal => k_is)
    (case k_law_refusal => k_is)
    (case a_law_told => k_is)
    (case l_law_told => k_is)
    (case c_law_told => k_is)
    (case k_law_told => k_is)
    (case a_law_behind => k_is)
    (case l_law_behind => k_is)
    (case c_law_behind => k_is)
    (case k_law_behind => k_is)
    (case a_law_walked => k_is)
    (case l_law_walked => k_is)
    (case c_law_walked => k_is)
    (case k_law_walked => k_is)
    (case a_BadDay_init => k_is)
    (case i_BadDay_init => k_is)
    (case l_BadDay_init => k_is)
    (case c_BadDay_init => k_is)
    (case k_BadDay_init => k_is)
    (case a_Garden_number => k_is)
    (case i_Garden_number => k_is)
    (case l_Garden_number => k_is)
    (case c_Garden_number => k_is)
    (case k_Garden_number => k_is)
    (case a_Cactus_may => k_is)
    (case i_Cactus_may => k_is)
    (case l_Cactus_may => k_is)
    (case c_Cactus_may => k_is)
    (case k_Cactus_may => k_is)
    (case a_Pot_may => k_is)
    (case i_Pot_may => k_is)
    (case l_Pot_may => k_is)
    (case c_Pot_may => k_is)
    (case k_Pot_may => k_is)
    (case a_bits_of => k_is)
    (case l_bits_of => k_is)
    (case c_bits_of => k_is)
    (case k_bits_of => k_is)
    (case a_allowed => k_is)
    (case l_allowed => k_is)
    (case c_allowed => k_is)
    (case k_allowed => k_is)
    (case a_behind => k_is)
    (case l_behind => k_is)
    (case c_behind => k_is)
    (case k_behind => k_is)
    (case a_Garden_place => k_is)
    (case i_Garden_place => k_is)
    (case l_Garden_place => k_is)
    (case c_Garden_place => k_is)
    (case k_Garden_place => k_is)
    (case a_chosen_by => k_is)
    (case l_chosen_by => k_is)
    (case c_chosen_by => k_is)
    (case k_chosen_by => k_is)
    (case t_chosen_by => k_is)
    (case a_dry_pot => k_is)
    (case l_dry_pot => k_is)
    (case c_dry_pot => k_is)
    (case k_dry_pot => k_is)
    (case a_followed => k_is)
    (case l_followed => k_is)
    (case c_followed => k_is)
    (case k_followed => k_is)
    (case t_followed => k_is)
    (case a_Garden_fresh => k_is)
    (case i_Garden_fresh => k_is)
    (case l_Garden_fresh => k_is)
    (case c_Garden_fresh => k_is)
    (case k_Garden_fresh => k_is)
    (case a_kept => k_is)
    (case l_kept => k_is)
    (case c_kept => k_is)
    (case k_kept => k_is)
    (case a_law_right => k_is)
    (case l_law_right => k_is)
    (case c_law_right => k_is)
    (case k_law_right => k_is)
    (case a_law_draw => k_is)
    (case l_law_draw => k_is)
    (case c_law_draw => k_is)
    (case k_law_draw => k_is)
    (case a_law_steps => k_is)
    (case l_law_steps => k_is)
    (case c_law_steps => k_is)
    (case k_law_steps => k_is)
    (case a_law_rows => k_is)
    (case l_law_rows => k_is)
    (case c_law_rows => k_is)
    (case k_law_rows => k_is)
    (case a_law_spec => k_is)
    (case l_law_spec => k_is)
    (case c_law_spec => k_is)
    (case k_law_spec => k_is)
    (case a_law_states => k_is)
    (case l_law_states => k_is)
    (case c_law_states => k_is)
    (case k_law_states => k_is)
    (case a_law => k_is)
    (case l_law => k_is)
    (case c_law => k_is)
    (case k_law => k_is)
    (case rd_Pot => k_is)
    (case ga_Pot => k_is)
    (case cv_Pot => k_is)
