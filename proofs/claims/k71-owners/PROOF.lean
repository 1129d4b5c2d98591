import PyProof.Rows.All
import Wide.All
import OpenK.AllK
import Wide.FinOn
import KE.SortData
import HandS.ForMost
import HandS.Wide
import HandS.IsInst
import HandS.TupAny
import KE.KDictKeyed
import KE.LtData
import HandS.TupLe
import PyProof.P3Eq
import HandS.Deep
import KE.GoesEnum
import HandS.Iter
import HandS.Dict
import HandS.SortInts
import HandS.Ends
import PyProof.ReprRoads
import PyProof.ReprLen
import HandS.Rev
import KE.KDictSum
import KE.KDictCopyH
import HandS.Style
import HandS.TryOnly
import HandS.GenList
import PySem.Challenge.RW_tideweir_k71_owners
set_option Elab.async false
set_option linter.all false
set_option maxRecDepth 100000
set_option maxHeartbeats 1000000
/-! data in the heap, cells, steps -/
namespace Dn
open PySem PySem.Spec PyProof.Rows L2

abbrev D := PyData
/-- what is written, the program, the world -/
structure Kx where
  K : PySem.W.Frag
  P : Program
  w : World
instance : Coe Kx PySem.W.Frag := ⟨Kx.K⟩
abbrev cxK (X : Cx) : Kx := ⟨X.K, X.prog, X.w⟩
/-- what a slot holds: a datum that stands for good, or a list of one's own (fixed: the def's parameter) -/
inductive Cell where
  | val (d : D)
  | own (fixed : Bool) (d : D)
abbrev Env := List (Option Cell)
abbrev Md (α : Type) := Env → Option (α × Env)

/-- a key of a dict as a datum -/
def keyD : Key → D
  | .inl i => .int i
  | .inr x => .str x
mutual
/-- a datum as a key within tuples -/
def nkOf : D → Option NestedKey
  | .none => some .none
  | .int i => some (.num i)
  | .str x => some (.text x)
  | .tuple xs => (nkAll xs).bind fun ks => some (.tup ks)
  | _ => none
def nkAll : List D → Option (List NestedKey)
  | [] => some []
  | x :: xs => (nkOf x).bind fun k => (nkAll xs).bind fun ks => some (k :: ks)
end
/-- .. of a depth that a dict's key may have -/
def nkD (d : D) : Option NestedKey := (nkOf d).bind fun k => if k.depth ≤ 8 ∧ d.canLay0 = true then some k else none
/-- a dict whose keys are tuples: its one object -/
def dicO (K : Kx) (a : Addr) (xs : List (NestedKey × Addr × V)) : HO := .ext fun h => (a == sysModules) = false ∧ ∃ ys : List (NestedKey × Addr × Value), Paired (fun (p : NestedKey × Addr × V) (q : NestedKey × Addr × Value) => p.1 = q.1 ∧ p.2.1 = q.2.1 ∧ RelV p.2.2 q.2.2) xs ys ∧
  ∃ o es ep, h.get? a = some o ∧ o.ExactDict ∧ o.data = .dict es ep ∧ es.toList = ys.map (entryOfKey (nestedKind K.P K.w)) ∧ (ys.map (·.1)).Nodup
mutual
/-- v stands for the datum d -/
inductive Rp (K : Kx) (H : Hp) : V → D → Prop
  | non : Rp K H .non .none
  | bl (b : Bool) : Rp K H (.bl b) (.bool b)
  | int (i : Int) : Rp K H (.int i) (.int i)
  | str (x : Str) : Rp K H (.str x) (.str x)
  | lst {a : Addr} {vs : List V} {es : List D} (hs : SqL K H a vs) (hr : RpAll K H vs es) : Rp K H (.ref a) (.list es)
  | tup {a : Addr} {vs : List V} {es : List D} (hs : SqT K H a vs) (hr : RpAll K H vs es) : Rp K H (.ref a) (.tuple es)
  | dic {a : Addr} {ks : List (Key × V)} {es : List (D × D)} (hs : H a = some (.dK ks)) (hr : RpKV K H ks es) : Rp K H (.ref a) (.dict es)
  | dicN {a : Addr} {xs : List (NestedKey × Addr × V)} {es : List (D × D)} (hs : H a = some (dicO K a xs)) (hr : RpN K H xs es) : Rp K H (.ref a) (.dict es)
inductive RpAll (K : Kx) (H : Hp) : List V → List D → Prop
  | nil : RpAll K H [] []
  | cons {v : V} {vs : List V} {d : D} {es : List D} (h1 : Rp K H v d) (h2 : RpAll K H vs es) : RpAll K H (v :: vs) (d :: es)
inductive RpKV (K : Kx) (H : Hp) : List (Key × V) → List (D × D) → Prop
  | nil : RpKV K H [] []
  | cons {k : Key} {v : V} {ks : List (Key × V)} {d : D} {es : List (D × D)} (h1 : Rp K H v d) (h2 : RpKV K H ks es) : RpKV K H ((k, v) :: ks) ((keyD k, d) :: es)
inductive RpN (K : Kx) (H : Hp) : List (NestedKey × Addr × V) → List (D × D) → Prop
  | nil : RpN K H [] []
  | cons {k : NestedKey} {ka : Addr} {x : V} {dk dv : D} {xs : List (NestedKey × Addr × V)} {es : List (D × D)} (hk : nkD dk = some k) (h1 : Rp K H (.ref ka) dk) (h2 : Rp K H x dv) (h3 : RpN K H xs es) : RpN K H ((k, ka, x) :: xs) ((dk, dv) :: es)
end
mutual
theorem rp_dp {K : Kx} {H : Hp} : ∀ {d : D} {v : V}, Rp K H v d → d.canLay0 = true → Dp K H v d
  | .none, _, h, _ => by cases h; exact .non
  | .bool _, _, h, _ => by cases h; exact .bl _
  | .int _, _, h, _ => by cases h; exact .int _
  | .str _, _, h, _ => by cases h; exact .str _
  | .list es, _, h, c => by
    cases h with
    | lst hs hr => exact .lst hs (rpAll_dp hr (by simpa [PyData.canLay0] using c))
  | .tuple es, _, h, c => by
    cases h with
    | tup hs hr => exact .tup hs (rpAll_dp hr (by simpa [PyData.canLay0] using c))
  | .dict _, _, _, c => by simp [PyData.canLay0] at c
theorem rpAll_dp {K : Kx} {H : Hp} : ∀ {ds : List D} {vs : List V}, RpAll K H vs ds → PyData.canLayAll0 ds = true → DpAll K H vs ds
  | [], _, h, _ => by cases h; exact .nil
  | d :: ds, _, h, c => by
    have c' : d.canLay0 = true ∧ PyData.canLayAll0 ds = true := by simpa [PyData.canLayAll0] using c
    cases h with
    | cons h1 h2 => exact .cons (rp_dp h1 c'.1) (rpAll_dp h2 c'.2)
end
theorem seqT_same {K : Kx} {H H' : Hp} {a : Addr} {xs : List V} (e : Same H H') (h : SqT K H a xs) : SqT K H' a xs := by
  rcases h with (h | ⟨o, h⟩) | h
  · exact .inl (.inl (e _ _ h))
  · exact .inl (.inr ⟨o, e _ _ h⟩)
  · exact .inr h
mutual
theorem dp_mono {K : Kx} {H H' : Hp} (e : Same H H') : ∀ (d : D) (v : V), Rp K H v d → Rp K H' v d
  | .none, _, h => by cases h; exact .non
  | .bool _, _, h => by cases h; exact .bl _
  | .int _, _, h => by cases h; exact .int _
  | .str _, _, h => by cases h; exact .str _
  | .list ds, _, h => by
    cases h with
    | lst hs ha => exact .lst (e.seq hs) (dpAll_mono e ds _ ha)
  | .tuple ds, _, h => by
    cases h with
    | tup hs ha => exact .tup (seqT_same e hs) (dpAll_mono e ds _ ha)
  | .dict es, _, h => by
    cases h with
    | dic hs hr => exact .dic (e _ _ hs) (dpKV_mono e es _ hr)
    | dicN hs hr => exact .dicN (e _ _ hs) (dpN_mono e es _ hr)
theorem dpAll_mono {K : Kx} {H H' : Hp} (e : Same H H') : ∀ (ds : List D) (vs : List V), RpAll K H vs ds → RpAll K H' vs ds
  | [], _, h => by cases h; exact .nil
  | d :: ds, _, h => by
    cases h with
    | cons h1 h2 => exact .cons (dp_mono e d _ h1) (dpAll_mono e ds _ h2)
theorem dpKV_mono {K : Kx} {H H' : Hp} (e : Same H H') : ∀ (ds : List (D × D)) (vs : List (Key × V)), RpKV K H vs ds → RpKV K H' vs ds
  | [], _, h => by cases h; exact .nil
  | (k, d) :: ds, _, h => by
    cases h with
    | cons h1 h2 => exact .cons (dp_mono e d _ h1) (dpKV_mono e ds _ h2)
theorem dpN_mono {K : Kx} {H H' : Hp} (e : Same H H') : ∀ (ds : List (D × D)) (xs : List (NestedKey × Addr × V)), RpN K H xs ds → RpN K H' xs ds
  | [], _, h => by cases h; exact .nil
  | (k, d) :: ds, _, h => by
    cases h with
    | cons h0 h1 h2 h3 => exact .cons h0 (dp_mono e k _ h1) (dp_mono e d _ h2) (dpN_mono e ds _ h3)
end
theorem da_len {K : Kx} {H : Hp} : ∀ {vs : List V} {ds : List D}, RpAll K H vs ds → vs.length = ds.length
  | _, _, .nil => rfl
  | _, _, .cons _ t => congrArg (· + 1) (da_len t)
theorem da_get {K : Kx} {H : Hp} : ∀ {vs : List V} {ds : List D} {i : Nat} {v : V}, RpAll K H vs ds → vs[i]? = some v → ∃ d, ds[i]? = some d ∧ Rp K H v d
  | _, _, i, v, .nil, e => by simp at e
  | _, _, 0, v, .cons h _, e => by
    have q := Option.some.inj e
    subst q
    exact ⟨_, rfl, h⟩
  | _, _, i + 1, v, .cons _ t, e => da_get (i := i) t e
theorem da_at {K : Kx} {H : Hp} : ∀ {vs : List V} {ds : List D} {i : Nat} {d : D}, RpAll K H vs ds → ds[i]? = some d → ∃ v, vs[i]? = some v ∧ Rp K H v d
  | _, _, i, v, .nil, e => by simp at e
  | _, _, 0, v, .cons h _, e => by
    have q := Option.some.inj e
    subst q
    exact ⟨_, rfl, h⟩
  | _, _, i + 1, v, .cons _ t, e => da_at (i := i) t e
theorem da_app {K : Kx} {H : Hp} : ∀ {vs ws : List V} {ds es : List D}, RpAll K H vs ds → RpAll K H ws es → RpAll K H (vs ++ ws) (ds ++ es)
  | _, _, _, _, .nil, h => h
  | _, _, _, _, .cons h t, q => .cons h (da_app t q)
theorem da_drop {K : Kx} {H : Hp} : ∀ {vs : List V} {ds : List D} (n : Nat), RpAll K H vs ds → RpAll K H (vs.drop n) (ds.drop n)
  | _, _, 0, h => h
  | _, _, _ + 1, .nil => .nil
  | _, _, n + 1, .cons _ t => da_drop n t
theorem da_take {K : Kx} {H : Hp} : ∀ {vs : List V} {ds : List D} (n : Nat), RpAll K H vs ds → RpAll K H (vs.take n) (ds.take n)
  | _, _, 0, _ => .nil
  | _, _, _ + 1, .nil => .nil
  | _, _, n + 1, .cons h t => .cons h (da_take n t)
theorem da_set {K : Kx} {H : Hp} {v : V} {d : D} (r : Rp K H v d) : ∀ {vs : List V} {ds : List D} (n : Nat), RpAll K H vs ds → RpAll K H (vs.set n v) (ds.set n d)
  | _, _, _, .nil => .nil
  | _, _, 0, .cons _ t => .cons r t
  | _, _, n + 1, .cons h t => .cons h (da_set r n t)
theorem da_rev {K : Kx} {H : Hp} : ∀ {vs : List V} {ds : List D}, RpAll K H vs ds → RpAll K H vs.reverse ds.reverse
  | _, _, .nil => .nil
  | _, _, .cons h t => by
    rw [List.reverse_cons, List.reverse_cons]
    exact da_app (da_rev t) (.cons h .nil)
theorem da_ints {K : Kx} {H : Hp} : ∀ ns : List Int, RpAll K H (ns.map V.int) (ns.map PyData.int)
  | [] => .nil
  | n :: ns => .cons (.int n) (da_ints ns)
theorem da_of_ints {K : Kx} {H : Hp} : ∀ (ns : List Int) {vs : List V}, RpAll K H vs (ns.map PyData.int) → vs = ns.map V.int
  | [], _, h => by cases h; rfl
  | n :: ns, _, h => by
    cases h with
    | cons a t =>
      cases a
      rw [da_of_ints ns t]
      rfl

/-- a list of one's own at a: it isn't among what stands for good -/
def OwnB (K : Kx) (F H : Hp) (a : Addr) (d : D) : Prop := (∃ xs ds, d = .list ds ∧ H a = some (.lst xs) ∧ RpAll K F xs ds) ∨ (∃ xs es, d = .dict es ∧ H a = some (dicO K a xs) ∧ RpN K F xs es)
def OwnAt (K : Kx) (F H : Hp) (a : Addr) (d : D) : Prop := F a = none ∧ OwnB K F H a d
theorem OwnAt.there {K : Kx} {F H : Hp} {a : Addr} {d : D} (h : OwnAt K F H a d) : ∃ o, H a = some o := by
  rcases h.2 with ⟨_, _, _, e, _⟩ | ⟨_, _, _, e, _⟩ <;> exact ⟨_, e⟩
theorem OwnB.mono {K : Kx} {F F' H H' : Hp} {a : Addr} {d : D} (h : OwnB K F H a d) (f : Same F F') (e : ∀ o, H a = some o → H' a = some o) : OwnB K F' H' a d := by
  rcases h with ⟨xs, ds, e1, e2, r⟩ | ⟨xs, es, e1, e2, r⟩
  · exact .inl ⟨xs, ds, e1, e _ e2, dpAll_mono f _ _ r⟩
  · exact .inr ⟨xs, es, e1, e _ e2, dpN_mono f _ _ r⟩

def CellOk (K : Kx) (F H : Hp) (x : Option (Option V)) : Cell → Prop
  | .val d => ∃ v, x = some (some v) ∧ Rp K F v d
  | .own _ d => ∃ a, x = some (some (.ref a)) ∧ OwnAt K F H a d

def Owns (σ : L2.St) (ρ : Env) (b : Addr) : Prop := ∃ (i : Nat) (f : Bool) (d : D), ρ[i]? = some (some (.own f d)) ∧ σ[i]? = some (some (.ref b))

/-- slots and heap bear the data environment; F is what stands for good -/
structure St (K : Kx) (F H : Hp) (σ : L2.St) (ρ : Env) : Prop where
  sub : Same F H
  len : ρ.length = σ.length
  cell : ∀ (i : Nat) (c : Cell), ρ[i]? = some (some c) → CellOk K F H σ[i]? c
  dist : ∀ (i j : Nat) (f g : Bool) (d e : D) (a : Addr), ρ[i]? = some (some (.own f d)) → ρ[j]? = some (some (.own g e)) → σ[i]? = some (some (.ref a)) → σ[j]? = some (some (.ref a)) → i = j

theorem St.free {K : Kx} {F H : Hp} {σ : L2.St} {ρ : Env} (s : St K F H σ ρ) {b : Addr} (o : Owns σ ρ b) : F b = none ∧ ∃ u, H b = some u := by
  obtain ⟨i, f, d, e, e2⟩ := o
  obtain ⟨a, e3, h⟩ := s.cell i _ e
  rw [e2] at e3
  cases e3
  exact ⟨h.1, h.there⟩

/-- from one state to another: what stood, but one's own, stands -/
structure Stp (F : Hp) (σ : L2.St) (ρ : Env) (H : Hp) (F' : Hp) (σ' : L2.St) (ρ' : Env) (H' : Hp) : Prop where
  ff : Same F F'
  keep : ∀ b o, H b = some o → ¬ Owns σ ρ b → H' b = some o ∧ F' b = F b
  fresh : ∀ b, Owns σ' ρ' b → Owns σ ρ b ∨ H b = none
  fix : ∀ (i : Nat) (d : D), ρ[i]? = some (some (.own true d)) → σ'[i]? = σ[i]? ∧ ∃ d', ρ'[i]? = some (some (.own true d'))
  dom : ∀ b o, H b = some o → ∃ o', H' b = some o'
theorem Stp.refl {F : Hp} {σ : L2.St} {ρ : Env} {H : Hp} : Stp F σ ρ H F σ ρ H := ⟨Same.refl _, fun _ _ h _ => ⟨h, rfl⟩, fun _ h => .inl h, fun _ d h => ⟨rfl, d, h⟩, fun _ o h => ⟨o, h⟩⟩
theorem Stp.trans {F F1 F2 : Hp} {σ σ1 σ2 : L2.St} {ρ ρ1 ρ2 : Env} {H H1 H2 : Hp} (a : Stp F σ ρ H F1 σ1 ρ1 H1) (b : Stp F1 σ1 ρ1 H1 F2 σ2 ρ2 H2) : Stp F σ ρ H F2 σ2 ρ2 H2 where
  ff := a.ff.trans b.ff
  keep := fun c o h n => by
    obtain ⟨h1, f1⟩ := a.keep c o h n
    have n1 : ¬ Owns σ1 ρ1 c := fun z => by
      rcases a.fresh c z with y | y
      · exact n y
      · rw [h] at y; cases y
    obtain ⟨h2, f2⟩ := b.keep c o h1 n1
    exact ⟨h2, f2.trans f1⟩
  fresh := fun c z => by
    rcases b.fresh c z with y | y
    · exact a.fresh c y
    · cases q : H c with
      | none => exact .inr rfl
      | some o =>
        by_cases n : Owns σ ρ c
        · exact .inl n
        · rw [(a.keep c o q n).1] at y; cases y
  fix := fun i d h => by
    obtain ⟨e1, d1, h1⟩ := a.fix i d h
    obtain ⟨e2, d2, h2⟩ := b.fix i d1 h1
    exact ⟨e2.trans e1, d2, h2⟩
  dom := fun c o h => by
    obtain ⟨o1, h1⟩ := a.dom c o h
    exact b.dom c o1 h1
theorem Stp.none {F F1 : Hp} {σ σ1 : L2.St} {ρ ρ1 : Env} {H H1 : Hp} (a : Stp F σ ρ H F1 σ1 ρ1 H1) {p : Addr} (h : H1 p = none) : H p = none := by
  cases q : H p with
  | none => rfl
  | some o =>
    obtain ⟨o', e⟩ := a.dom p o q
    rw [h] at e
    cases e

/-- new things, and nothing else -/
structure Grow (F H F' H' : Hp) : Prop where
  ff : Same F F'
  hh : Same H H'
  fh : Same F' H'
  new : ∀ b o, H b = some o → F' b = F b
theorem Grow.refl {F H : Hp} (s : Same F H) : Grow F H F H := ⟨Same.refl _, Same.refl _, s, fun _ _ _ => rfl⟩
theorem Grow.trans {F H F1 H1 F2 H2 : Hp} (a : Grow F H F1 H1) (b : Grow F1 H1 F2 H2) : Grow F H F2 H2 :=
  ⟨a.ff.trans b.ff, a.hh.trans b.hh, b.fh, fun c o h => (b.new c o (a.hh c o h)).trans (a.new c o h)⟩
theorem same_new {H : Hp} {p : Addr} {o : HO} (h : H p = none) : Same H (upd H p o) := fun b x e => by
  rw [upd_ne (ne_of_none e h)]
  exact e
theorem same_upd2 {F H : Hp} {p : Addr} {o : HO} (s : Same F H) : Same (upd F p o) (upd H p o) := fun b x e => by
  by_cases h : b = p
  · subst h
    rw [upd_same] at e ⊢
    exact e
  · rw [upd_ne h] at e ⊢
    exact s b x e
theorem none_sub {F H : Hp} {p : Addr} (s : Same F H) (h : H p = none) : F p = none := s.free h
/-- a new thing that stands for good -/
theorem Grow.val {F H : Hp} {p : Addr} {o : HO} (s : Same F H) (h : H p = none) : Grow F H (upd F p o) (upd H p o) :=
  ⟨same_new (none_sub s h), same_new h, same_upd2 s, fun b x e => upd_ne (ne_of_none e h)⟩
/-- a new thing of one's own -/
theorem Grow.own {F H : Hp} {p : Addr} {o : HO} (s : Same F H) (h : H p = none) : Grow F H F (upd H p o) :=
  ⟨Same.refl _, same_new h, s.trans (same_new h), fun _ _ _ => rfl⟩
theorem OwnAt.grow {K : Kx} {F H F' H' : Hp} {a : Addr} {d : D} (g : Grow F H F' H') (h : OwnAt K F H a d) : OwnAt K F' H' a d := by
  obtain ⟨o, ho⟩ := h.there
  exact ⟨(g.new a _ ho).trans h.1, h.2.mono g.ff fun o e => g.hh _ _ e⟩
theorem St.grow {K : Kx} {F H F' H' : Hp} {σ : L2.St} {ρ : Env} (s : St K F H σ ρ) (g : Grow F H F' H') : St K F' H' σ ρ where
  sub := g.fh
  len := s.len
  cell := fun i c e => by
    have q := s.cell i c e
    cases c with
    | val d =>
      obtain ⟨v, e1, r⟩ := q
      exact ⟨v, e1, dp_mono g.ff _ _ r⟩
    | own f d =>
      obtain ⟨a, e1, r⟩ := q
      exact ⟨a, e1, r.grow g⟩
  dist := s.dist
theorem Grow.stp {F H F' H' : Hp} (g : Grow F H F' H') (σ : L2.St) (ρ : Env) : Stp F σ ρ H F' σ ρ H' :=
  ⟨g.ff, fun b o h _ => ⟨g.hh b o h, g.new b o h⟩, fun _ h => .inl h, fun _ d h => ⟨rfl, d, h⟩, fun b o h => ⟨o, g.hh b o h⟩⟩

/-! ### the readings -/
section
variable (K : Kx)
def tD (g : Md D) : TE := fun σ H Q => ∃ (F : Hp) (ρ : Env) (d : D) (ρ' : Env), St K F H σ ρ ∧ g ρ = some (d, ρ') ∧
  ∀ v F' H', Stp F σ ρ H F' σ ρ' H' → St K F' H' σ ρ' → Rp K F' v d → Q v H'
/-- the answer is a new list of one's own -/
def tF (g : Md D) : TE := fun σ H Q => ∃ (F : Hp) (ρ : Env) (d : D) (ρ' : Env), St K F H σ ρ ∧ g ρ = some (d, ρ') ∧
  ∀ a F' H', Stp F σ ρ H F' σ ρ' H' → St K F' H' σ ρ' → OwnAt K F' H' a d → ¬ Owns σ ρ' a → H a = none → Q (.ref a) H'
def tDT (g : Md Bool) : TT := fun σ H Q => ∃ (F : Hp) (ρ : Env) (d : Bool) (ρ' : Env), St K F H σ ρ ∧ g ρ = some (d, ρ') ∧
  ∀ F' H', Stp F σ ρ H F' σ ρ' H' → St K F' H' σ ρ' → Q d H'
def tDA (g : Md (List D)) : TA := fun σ H Q => ∃ (F : Hp) (ρ : Env) (ds : List D) (ρ' : Env), St K F H σ ρ ∧ g ρ = some (ds, ρ') ∧
  ∀ vs F' H', Stp F σ ρ H F' σ ρ' H' → St K F' H' σ ρ' → RpAll K F' vs ds → Q vs H'
inductive Fl where
  | nx | ret (d : D) | rof (d : D) | brk | cnt
abbrev Sd := Env → Option (Fl × Env)
def FlOk (E : Ends) (H0 F' : Hp) (σ' : L2.St) (H' : Hp) : Fl → Prop
  | .nx => E.nx σ' H'
  | .ret d => ∀ v, Rp K F' v d → E.rt v H'
  | .rof d => ∀ a, OwnAt K F' H' a d → H0 a = none → E.rt (.ref a) H'
  | .brk => E.bk σ' H'
  | .cnt => E.ct σ' H'
def tDS (g : Sd) : TS := fun E σ H => ∃ (F : Hp) (ρ : Env) (f : Fl) (ρ' : Env), St K F H σ ρ ∧ g ρ = some (f, ρ') ∧
  ∀ σ' F' H', Stp F σ ρ H F' σ' ρ' H' → St K F' H' σ' ρ' → FlOk K E H F' σ' H' f
/-- a target's reading: the datum is stored -/
def tDG (is : List Nat) (g : D → Env → Option Env) : TG := fun v σ H Q => ∃ (F : Hp) (ρ : Env) (d : D) (ρ' : Env), St K F H σ ρ ∧ Rp K F v d ∧ g d ρ = some ρ' ∧
  ∀ σ' F' H', Stp F σ ρ H F' σ' ρ' H' → St K F' H' σ' ρ' → (σ'.length = σ.length ∧ ∀ j, j ∉ is → σ'[j]? = σ[j]?) → Q σ' H'
/-- operators: the answer from the data -/
def rP2 (f : D → D → Option D) : R2 := fun x y H Q => ∃ (F : Hp) (d e r : D), Same F H ∧ Rp K F x d ∧ Rp K F y e ∧ f d e = some r ∧ ∀ v F' H', Grow F H F' H' → Rp K F' v r → Q v H'
def rP1 (f : D → Option D) : V → Hp → VK → Prop := fun x H Q => ∃ (F : Hp) (d r : D), Same F H ∧ Rp K F x d ∧ f d = some r ∧ ∀ v F' H', Grow F H F' H' → Rp K F' v r → Q v H'
def rPn (f : List D → Option D) : List V → Hp → VK → Prop := fun xs H Q => ∃ (F : Hp) (ds : List D) (r : D), Same F H ∧ RpAll K F xs ds ∧ f ds = some r ∧ ∀ v F' H', Grow F H F' H' → Rp K F' v r → Q v H'
/-- .. a new list -/
def rFn (f : List D → Option D) : List V → Hp → VK → Prop := fun xs H Q => ∃ (F : Hp) (ds : List D) (r : D), Same F H ∧ RpAll K F xs ds ∧ f ds = some r ∧ ∀ a F' H', Grow F H F' H' → OwnAt K F' H' a r → H a = none → Q (.ref a) H'
end
abbrev DE (X : Cx) (e : Expr) (g : Md D) : Prop := PE X e (tD (cxK X) g)
abbrev DF (X : Cx) (e : Expr) (g : Md D) : Prop := PE X e (tF (cxK X) g)
abbrev DT (X : Cx) (e : Expr) (g : Md Bool) : Prop := PT X e (tDT (cxK X) g)
abbrev DW (X : Cx) (e : Expr) (g : Md Bool) : Prop := PW X e (tDT (cxK X) g)
abbrev DA (X : Cx) (es : List Expr) (g : Md (List D)) : Prop := PA X es (tDA (cxK X) g)
abbrev DS (X : Cx) (st : Stmt) (g : Sd) : Prop := PS X st (tDS (cxK X) g)
abbrev DSs (X : Cx) (st : List Stmt) (g : Sd) : Prop := PSs X st (tDS (cxK X) g)
abbrev DG (X : Cx) (e : Expr) (is : List Nat) (g : D → Env → Option Env) : Prop := PG X e (tDG (cxK X) is g)

theorem pe_imp {X : Cx} {e : Expr} {t t' : TE} (h : PE X e t) (i : ∀ σ H Q, t' σ H Q → t σ H Q) : PE X e t' := ⟨fun pins s σ H Q I q => h.run pins s σ H Q I (i σ H Q q)⟩
theorem pt_imp {X : Cx} {e : Expr} {t t' : TT} (h : PT X e t) (i : ∀ σ H Q, t' σ H Q → t σ H Q) : PT X e t' := ⟨fun pins s σ H Q I q => h.run pins s σ H Q I (i σ H Q q)⟩
theorem pw_imp {X : Cx} {e : Expr} {t t' : TT} (h : PW X e t) (i : ∀ σ H Q, t' σ H Q → t σ H Q) : PW X e t' := ⟨fun wh pins s σ H Q I q => h.run wh pins s σ H Q I (i σ H Q q)⟩
theorem pa_imp {X : Cx} {e : List Expr} {t t' : TA} (h : PA X e t) (i : ∀ σ H Q, t' σ H Q → t σ H Q) : PA X e t' := ⟨fun pos pins s σ H Q I q => h.run pos pins s σ H Q I (i σ H Q q)⟩
theorem ps_imp {X : Cx} {e : Stmt} {t t' : TS} (h : PS X e t) (i : ∀ E σ H, t' E σ H → t E σ H) : PS X e t' := ⟨fun pins s σ H E I q => h.run pins s σ H E I (i E σ H q)⟩
theorem pss_imp {X : Cx} {e : List Stmt} {t t' : TS} (h : PSs X e t) (i : ∀ E σ H, t' E σ H → t E σ H) : PSs X e t' := ⟨fun pins s σ H E I q => h.run pins s σ H E I (i E σ H q)⟩
theorem pg_imp {X : Cx} {e : Expr} {t t' : TG} (h : PG X e t) (i : ∀ v σ H Q, t' v σ H Q → t v σ H Q) : PG X e t' := ⟨fun pins s σ H v u Q I r q => h.run pins s σ H v u Q I r (i v σ H Q q)⟩
end Dn
set_option maxHeartbeats 1000000
/-! expressions over data -/
namespace Dn
open PySem PySem.Spec PyProof.Rows L2

/-! ### the functions on data -/
def gC (d : D) : Md D := fun ρ => some (d, ρ)
def gVar (i : Nat) : Md D := fun ρ => match ρ[i]? with
  | some (some (.val d)) => some (d, ρ)
  | _ => none
def gFrz (i : Nat) : Md D := fun ρ => match ρ[i]? with
  | some (some (.val d)) => some (d, ρ)
  | some (some (.own false d)) => some (d, ρ.set i (some (.val d)))
  | _ => none
def gBin (f : D → D → Option D) (ga gb : Md D) : Md D := fun ρ => (ga ρ).bind fun p => (gb p.2).bind fun q => (f p.1 q.1).bind fun r => some (r, q.2)
def gUn (f : D → Option D) (ga : Md D) : Md D := fun ρ => (ga ρ).bind fun p => (f p.1).bind fun r => some (r, p.2)
def bOf : D → Option Bool
  | .bool b => some b
  | _ => none
def gTst (g : Md D) : Md Bool := fun ρ => (g ρ).bind fun p => (bOf p.1).bind fun b => some (b, p.2)
def gChain (f f' : D → D → Option D) (ga gb gc : Md D) : Md D := fun ρ => (ga ρ).bind fun p => (gb p.2).bind fun q => (f p.1 q.1).bind fun r => (bOf r).bind fun b =>
  if b = true then (gc q.2).bind fun t => (f' q.1 t.1).bind fun r => some (r, t.2) else some (.bool false, q.2)
def gAnd (ga gb : Md Bool) : Md Bool := fun ρ => (ga ρ).bind fun p => if p.1 = true then gb p.2 else some (false, p.2)
def gOr (ga gb : Md Bool) : Md Bool := fun ρ => (ga ρ).bind fun p => if p.1 = true then some (true, p.2) else gb p.2
def gNot (ga : Md Bool) : Md Bool := fun ρ => (ga ρ).bind fun p => some (!p.1, p.2)
def gAndV (ga gb : Md D) : Md D := fun ρ => (ga ρ).bind fun p => (bOf p.1).bind fun b => if b = true then gb p.2 else some (.bool false, p.2)
def gOrV (ga gb : Md D) : Md D := fun ρ => (ga ρ).bind fun p => (bOf p.1).bind fun b => if b = true then some (.bool true, p.2) else gb p.2
def gNotV (ga : Md D) : Md D := fun ρ => (ga ρ).bind fun p => (bOf p.1).bind fun b => some (.bool (!b), p.2)
def gIfE (gc : Md Bool) (ga gb : Md D) : Md D := fun ρ => (gc ρ).bind fun p => if p.1 = true then ga p.2 else gb p.2
def gNil : Md (List D) := fun ρ => some ([], ρ)
def gCons (g : Md D) (gs : Md (List D)) : Md (List D) := fun ρ => (g ρ).bind fun p => (gs p.2).bind fun q => some (p.1 :: q.1, q.2)
def gApp (f : List D → Option D) (gs : Md (List D)) : Md D := fun ρ => (gs ρ).bind fun p => (f p.1).bind fun r => some (r, p.2)

section
variable {X : Cx} {a b c e : Expr} {es : List Expr} {pos : Pos}

theorem st_owned {K : Kx} {F H : Hp} {σ : L2.St} {ρ : Env} {i : Nat} {f : Bool} {d : D} (s : St K F H σ ρ) (e : ρ[i]? = some (some (.own f d))) : ∃ a, σ[i]? = some (some (.ref a)) ∧ OwnAt K F H a d ∧ Owns σ ρ a := by
  obtain ⟨a, e1, h⟩ := s.cell i _ e
  exact ⟨a, e1, h, i, f, d, e, e1⟩
theorem st_val {K : Kx} {F H : Hp} {σ : L2.St} {ρ : Env} {i : Nat} {d : D} (s : St K F H σ ρ) (e : ρ[i]? = some (some (.val d))) : ∃ v, σ[i]? = some (some v) ∧ Rp K F v d := s.cell i _ e

/-- a list of one's own comes to stand for good -/
theorem own_dp {K : Kx} {F H : Hp} {a : Addr} {d : D} (h : OwnAt K F H a d) : ∃ o, H a = some o ∧ Same F (upd F a o) ∧ Rp K (upd F a o) (.ref a) d := by
  obtain ⟨f, h⟩ := h
  rcases h with ⟨xs, ds, rfl, e, r⟩ | ⟨xs, es, rfl, e, r⟩
  · exact ⟨_, e, same_new f, .lst (.inl (.inl upd_same)) (dpAll_mono (same_new f) _ _ r)⟩
  · exact ⟨_, e, same_new f, .dicN upd_same (dpN_mono (same_new f) _ _ r)⟩
theorem sub_upd {F H : Hp} {a : Addr} {o : HO} (s : Same F H) (e : H a = some o) : Same (upd F a o) H := fun b x h => by
  by_cases q : b = a
  · subst q
    rw [upd_same] at h
    rw [e]
    exact h
  · rw [upd_ne q] at h
    exact s b x h
theorem own_keep {K : Kx} {F H : Hp} {a b : Addr} {d : D} {o : HO} (h : OwnAt K F H b d) (n : b ≠ a) (hF : F a = none) : OwnAt K (upd F a o) H b d := by
  exact ⟨(upd_ne n).trans h.1, h.2.mono (same_new hF) fun _ e => e⟩
theorem st_frz {K : Kx} {F H : Hp} {σ : L2.St} {ρ : Env} {a : Addr} {o : HO} (s : St K F H σ ρ) (hF : F a = none) (e : H a = some o) (n : ¬ Owns σ ρ a) : St K (upd F a o) H σ ρ where
  sub := sub_upd s.sub e
  len := s.len
  cell := fun i c h => by
    have q := s.cell i c h
    cases c with
    | val d =>
      obtain ⟨v, e1, r⟩ := q
      exact ⟨v, e1, dp_mono (same_new hF) _ _ r⟩
    | own f d =>
      obtain ⟨b, e1, r⟩ := q
      exact ⟨b, e1, own_keep r (fun z => n (by subst z; exact ⟨i, f, d, h, e1⟩)) hF⟩
  dist := s.dist

theorem get_set_self {α : Type} {l : List α} {i : Nat} {x y : α} (h : l[i]? = some y) : (l.set i x)[i]? = some x := List.getElem?_set_self (List.getElem?_eq_some_iff.mp h).1
theorem get_set_ne {α : Type} {l : List α} {i j : Nat} {x : α} (h : j ≠ i) : (l.set i x)[j]? = l[j]? := List.getElem?_set_ne (Ne.symm h)

theorem df_de {g : Md D} (h : DF X e g) : DE X e g := pe_imp h fun σ H Q q => by
  obtain ⟨F, ρ, d, ρ', s, eg, k⟩ := q
  refine ⟨F, ρ, d, ρ', s, eg, fun a F' H' st s' o n hn => ?_⟩
  obtain ⟨u, eu, sf, r⟩ := own_dp o
  refine k (.ref a) (upd F' a u) H' ⟨st.ff.trans sf, fun b x hb nb => ?_, st.fresh, st.fix, st.dom⟩ (st_frz s' o.1 eu n) r
  obtain ⟨h1, h2⟩ := st.keep b x hb nb
  exact ⟨h1, (upd_ne (ne_of_none hb hn)).trans h2⟩

theorem de_var (i : Nat) {x : Str} (hN : X.N[i]? = some x) (hv : Vis X.env.scope x) (hd : (x == ("__debug__" : Str)) = false := by decide) (hcd : (x == ("__classdict__" : Str)) = false := by decide) : DE X (.Name x pos) (gVar i) :=
  pe_imp (pe_var hN hv hd hcd) fun σ H Q q => by
    obtain ⟨F, ρ, d, ρ', s, eg, k⟩ := q
    unfold gVar at eg
    split at eg
    · rename_i d' h
      cases eg
      obtain ⟨v, e1, r⟩ := st_val s h
      exact ⟨v, e1, k v F H Stp.refl s r⟩
    · cases eg
theorem de_frz (i : Nat) {x : Str} (hN : X.N[i]? = some x) (hv : Vis X.env.scope x) (hd : (x == ("__debug__" : Str)) = false := by decide) (hcd : (x == ("__classdict__" : Str)) = false := by decide) : DE X (.Name x pos) (gFrz i) :=
  pe_imp (pe_var hN hv hd hcd) fun σ H Q q => by
    obtain ⟨F, ρ, d, ρ', s, eg, k⟩ := q
    unfold gFrz at eg
    split at eg
    · rename_i d' h
      cases eg
      obtain ⟨v, e1, r⟩ := st_val s h
      exact ⟨v, e1, k v F H Stp.refl s r⟩
    · rename_i d' h
      cases eg
      obtain ⟨a, e1, r, ow⟩ := st_owned s h
      obtain ⟨u, eu, sf, rd⟩ := own_dp r
      refine ⟨.ref a, e1, k (.ref a) (upd F a u) H ⟨sf, fun b o hb nb => ⟨hb, upd_ne fun z => nb (by subst z; exact ow)⟩, fun b hb => ?_, fun j dj hj => ?_, fun _ o h => ⟨o, h⟩⟩ ?_ rd⟩
      · obtain ⟨j, f, dj, h1, h2⟩ := hb
        by_cases z : j = i
        · subst z
          rw [get_set_self h] at h1
          cases h1
        · rw [get_set_ne z] at h1
          exact .inl ⟨j, f, dj, h1, h2⟩
      · have z : j ≠ i := fun z => by
          subst z
          rw [h] at hj
          cases hj
        exact ⟨rfl, dj, by rw [get_set_ne z]; exact hj⟩
      · refine ⟨sub_upd s.sub eu, by rw [List.length_set]; exact s.len, fun j c hj => ?_, fun j l f g dj dl b h1 h2 h3 h4 => ?_⟩
        · by_cases z : j = i
          · subst z
            rw [get_set_self h] at hj
            cases hj
            exact ⟨.ref a, e1, rd⟩
          · rw [get_set_ne z] at hj
            have q := s.cell j c hj
            cases c with
            | val dj =>
              obtain ⟨v, e2, r2⟩ := q
              exact ⟨v, e2, dp_mono sf _ _ r2⟩
            | own f dj =>
              obtain ⟨b, e2, r2⟩ := q
              exact ⟨b, e2, own_keep r2 (fun y => z (by subst y; exact s.dist j i f false dj _ _ hj h e2 e1)) r.1⟩
        · have z1 : j ≠ i := fun z => by subst z; rw [get_set_self h] at h1; cases h1
          have z2 : l ≠ i := fun z => by subst z; rw [get_set_self h] at h2; cases h2
          rw [get_set_ne z1] at h1
          rw [get_set_ne z2] at h2
          exact s.dist j l f g dj dl b h1 h2 h3 h4
    · cases eg
theorem de_const {t : TE} {d : D} {v : V} (h : PE X e (tC v)) (r : ∀ F, Rp (cxK X) F v d) : DE X e (gC d) := pe_imp h fun σ H Q q => by
  obtain ⟨F, ρ, d', ρ', s, eg, k⟩ := q
  cases eg
  exact k v F H Stp.refl s (r F)
theorem de_int {i : Int} {j : Nat} : DE X (.Constant (.int i) j pos) (gC (.int i)) := de_const (t := tC .non) pe_int fun _ => .int i
theorem de_bl {b : Bool} {j : Nat} : DE X (.Constant (.bool b) j pos) (gC (.bool b)) := de_const (t := tC .non) pe_bl fun _ => .bl b
theorem de_non {j : Nat} : DE X (.Constant .none j pos) (gC .none) := de_const (t := tC .non) pe_non fun _ => .non
theorem de_str {x : Str} {j : Nat} : DE X (.Constant (.str x) j pos) (gC (.str x)) := de_const (t := tC .non) pe_str fun _ => .str x

theorem bind_some {α β : Type} {o : Option α} {f : α → Option β} {r : β} (h : o.bind f = some r) : ∃ a, o = some a ∧ f a = some r := by
  cases o with
  | none => cases h
  | some a => exact ⟨a, rfl, h⟩
theorem dp_bl {K : Kx} {H : Hp} {v : V} {b : Bool} (h : Rp K H v (.bool b)) : v = .bl b := by cases h; rfl
theorem bOf_some {d : D} {b : Bool} (h : bOf d = some b) : d = .bool b := by
  cases d <;> simp [bOf] at h
  subst h
  rfl

/-! ### operators -/
theorem bin_q {r : R2} {f : D → D → Option D} {ga gb : Md D} (hr : r = rP2 (cxK X) f) {σ : L2.St} {H : Hp} {Q : VK} (q : tD (cxK X) (gBin f ga gb) σ H Q) : tOp r (tD (cxK X) ga) (tD (cxK X) gb) σ H Q := by
  subst hr
  obtain ⟨F, ρ, d, ρ', s, eg, k⟩ := q
  obtain ⟨⟨x, ρ1⟩, e1, eg⟩ := bind_some eg
  obtain ⟨⟨y, ρ2⟩, e2, eg⟩ := bind_some eg
  obtain ⟨z, e3, eg⟩ := bind_some eg
  cases eg
  exact ⟨F, ρ, x, ρ1, s, e1, fun v F1 H1 p1 s1 r1 => ⟨F1, ρ1, y, ρ2, s1, e2, fun u F2 H2 p2 s2 r2 => ⟨F2, x, y, _, s2.sub, dp_mono p2.ff _ _ r1, r2, e3, fun w F3 H3 gr rw' =>
    k w F3 H3 (p1.trans (p2.trans (gr.stp σ ρ2))) (s2.grow gr) rw'⟩⟩⟩
theorem de_bin {op : Operator} {f : D → D → Option D} {ga gb : Md D} (ho : OpR X (binaryOp op) (rP2 (cxK X) f)) (ha : DE X a ga) (hb : DE X b gb) : DE X (.BinOp a op b pos) (gBin f ga gb) :=
  pe_imp (pe_op ho ha hb) fun _ _ _ q => bin_q rfl q
theorem de_cmp {op : CmpOp} {f : D → D → Option D} {ga gb : Md D} (ho : OpR X (compareOp op) (rP2 (cxK X) f)) (ha : DE X a ga) (hb : DE X b gb) (hm : behindInMarks op b = false) : DE X (.Compare a [op] [b] pos) (gBin f ga gb) :=
  pe_imp (pe_cmpR ho ha hb hm) fun _ _ _ q => bin_q rfl q
theorem de_ix {f : D → D → Option D} {ga gb : Md D} (ho : IxR X (rP2 (cxK X) f)) (ha : DE X a ga) (hb : DE X b gb) (hs : PlainIx b) : DE X (.Subscript a b pos) (gBin f ga gb) :=
  pe_imp (pe_ix ho ha hb hs) fun _ _ _ q => bin_q rfl q
theorem de_un {op : UnaryOp} {f : D → Option D} {ga : Md D} (ho : UnR X (unaryOp op) (rP1 (cxK X) f)) (ha : DE X a ga) : DE X (.UnaryOp op a pos) (gUn f ga) :=
  pe_imp (pe_un ho ha) fun σ H Q q => by
    obtain ⟨F, ρ, d, ρ', s, eg, k⟩ := q
    obtain ⟨⟨x, ρ1⟩, e1, eg⟩ := bind_some eg
    obtain ⟨z, e3, eg⟩ := bind_some eg
    cases eg
    exact ⟨F, ρ, x, ρ1, s, e1, fun v F1 H1 p1 s1 r1 => ⟨F1, x, _, s1.sub, r1, e3, fun w F3 H3 gr rw' => k w F3 H3 (p1.trans (gr.stp σ ρ1)) (s1.grow gr) rw'⟩⟩
theorem tst_q {g : Md D} {σ : L2.St} {H : Hp} {Q : Bool → Hp → Prop} (q : tDT (cxK X) (gTst g) σ H Q) : tD (cxK X) g σ H (fun x H1 => ∃ k, x = .bl k ∧ Q k H1) := by
  obtain ⟨F, ρ, d, ρ', s, eg, k⟩ := q
  obtain ⟨⟨x, ρ1⟩, e1, eg⟩ := bind_some eg
  obtain ⟨z, e3, eg⟩ := bind_some eg
  cases eg
  refine ⟨F, ρ, x, _, s, e1, fun v F1 H1 p1 s1 r1 => ⟨d, ?_, k F1 H1 p1 s1⟩⟩
  have e : x = .bool d := bOf_some e3
  subst e
  exact dp_bl r1
theorem dt_cmp {op : CmpOp} {f : D → D → Option D} {ga gb : Md D} (ho : OpR X (compareOp op) (rP2 (cxK X) f)) (ha : DE X a ga) (hb : DE X b gb) (hm : behindInMarks op b = false) : DT X (.Compare a [op] [b] pos) (gTst (gBin f ga gb)) :=
  pt_imp (pt_cmpR ho ha hb hm) fun σ H Q q => bin_q rfl (tst_q q)
theorem chain_q {f f' : D → D → Option D} {ga gb gc : Md D} {σ : L2.St} {H : Hp} {Q : VK} (q : tD (cxK X) (gChain f f' ga gb gc) σ H Q) : tChain (rP2 (cxK X) f) (rP2 (cxK X) f') (tD (cxK X) ga) (tD (cxK X) gb) (tD (cxK X) gc) σ H Q := by
  obtain ⟨F, ρ, d, ρ', s, eg, k⟩ := q
  obtain ⟨⟨x, ρ1⟩, e1, eg⟩ := bind_some eg
  obtain ⟨⟨y, ρ2⟩, e2, eg⟩ := bind_some eg
  obtain ⟨z, e3, eg⟩ := bind_some eg
  obtain ⟨t, e4, eg4⟩ := bind_some eg
  clear eg
  have e5 : z = .bool t := bOf_some e4
  subst e5
  refine ⟨F, ρ, x, ρ1, s, e1, fun v F1 H1 p1 s1 r1 => ⟨F1, ρ1, y, ρ2, s1, e2, fun u F2 H2 p2 s2 r2 => ⟨F2, x, y, _, s2.sub, dp_mono p2.ff _ _ r1, r2, e3, fun w F3 H3 gr rw' => ⟨t, dp_bl rw', ?_⟩⟩⟩⟩
  have p3 := p1.trans (p2.trans (gr.stp σ ρ2))
  cases t with
  | true =>
    rw [if_pos rfl] at eg4 ⊢
    obtain ⟨⟨m, ρ3⟩, e6, eg5⟩ := bind_some eg4
    obtain ⟨n, e7, eg6⟩ := bind_some eg5
    cases eg6
    exact ⟨F3, ρ2, m, ρ3, s2.grow gr, e6, fun v4 F4 H4 p4 s4 r4 => ⟨F4, y, m, _, s4.sub, dp_mono (gr.ff.trans p4.ff) _ _ r2, r4, e7, fun v5 F5 H5 gr5 r5 =>
      k v5 F5 H5 (p3.trans (p4.trans (gr5.stp σ ρ3))) (s4.grow gr5) r5⟩⟩
  | false =>
    rw [if_neg Bool.false_ne_true] at eg4 ⊢
    cases eg4
    exact k (.bl false) F3 H3 p3 (s2.grow gr) (.bl false)
theorem de_chain {op op' : CmpOp} {f f' : D → D → Option D} {ga gb gc : Md D} (ho : OpR X (compareOp op) (rP2 (cxK X) f)) (ho' : OpR X (compareOp op') (rP2 (cxK X) f')) (ha : DE X a ga) (hb : DE X b gb) (hc : DE X c gc) (hm : lastMarks [op, op'] [b, c] = false := by with_unfolding_all rfl) : DE X (.Compare a [op, op'] [b, c] pos) (gChain f f' ga gb gc) :=
  pe_imp (pe_chain ho ho' ha hb hc hm) fun _ _ _ q => chain_q q
theorem dt_chain {op op' : CmpOp} {f f' : D → D → Option D} {ga gb gc : Md D} (ho : OpR X (compareOp op) (rP2 (cxK X) f)) (ho' : OpR X (compareOp op') (rP2 (cxK X) f')) (ha : DE X a ga) (hb : DE X b gb) (hc : DE X c gc) (hm : lastMarks [op, op'] [b, c] = false := by with_unfolding_all rfl) : DT X (.Compare a [op, op'] [b, c] pos) (gTst (gChain f f' ga gb gc)) :=
  pt_imp (pt_chain ho ho' ha hb hc hm) fun _ _ _ q => chain_q (tst_q q)

/-! ### and, or, not, if -/
theorem dt_and {ga gb : Md Bool} {rest : List Expr} (ha : DT X a ga) (hb : DW X (.BoolOp .And (b :: rest) pos) gb) : DW X (.BoolOp .And (a :: b :: rest) pos) (gAnd ga gb) :=
  pw_imp (pw_and ha hb) fun σ H Q q => by
    obtain ⟨F, ρ, d, ρ', s, eg, k⟩ := q
    obtain ⟨⟨x, ρ1⟩, e1, eg⟩ := bind_some eg
    refine ⟨F, ρ, x, ρ1, s, e1, fun F1 H1 p1 s1 => ?_⟩
    cases x with
    | true => exact ⟨F1, ρ1, d, ρ', s1, eg, fun F2 H2 p2 s2 => k F2 H2 (p1.trans p2) s2⟩
    | false =>
      cases eg
      exact k F1 H1 p1 s1
theorem dt_or {ga gb : Md Bool} {rest : List Expr} (ha : DT X a ga) (hb : DW X (.BoolOp .Or (b :: rest) pos) gb) : DW X (.BoolOp .Or (a :: b :: rest) pos) (gOr ga gb) :=
  pw_imp (pw_or ha hb) fun σ H Q q => by
    obtain ⟨F, ρ, d, ρ', s, eg, k⟩ := q
    obtain ⟨⟨x, ρ1⟩, e1, eg⟩ := bind_some eg
    refine ⟨F, ρ, x, ρ1, s, e1, fun F1 H1 p1 s1 => ?_⟩
    cases x with
    | false => exact ⟨F1, ρ1, d, ρ', s1, eg, fun F2 H2 p2 s2 => k F2 H2 (p1.trans p2) s2⟩
    | true =>
      cases eg
      exact k F1 H1 p1 s1
theorem dt_and1 {ga : Md Bool} (ha : DT X a ga) : DW X (.BoolOp .And [a] pos) ga := pw_and1 ha
theorem dt_or1 {ga : Md Bool} (ha : DT X a ga) : DW X (.BoolOp .Or [a] pos) ga := pw_or1 ha
theorem dt_bool {op : BoolOp} {ga : Md Bool} (h : DW X (.BoolOp op es pos) ga) : DT X (.BoolOp op es pos) ga := h.pt
theorem dt_not {ga : Md Bool} (ha : DT X a ga) : DT X (.UnaryOp .Not a pos) (gNot ga) :=
  pt_imp (pt_not ha) fun σ H Q q => by
    obtain ⟨F, ρ, d, ρ', s, eg, k⟩ := q
    obtain ⟨⟨x, ρ1⟩, e1, eg⟩ := bind_some eg
    cases eg
    exact ⟨F, ρ, x, _, s, e1, fun F1 H1 p1 s1 => k F1 H1 p1 s1⟩
/-- an expression that tells True or False, as a test -/
theorem dt_val {g : Md D} (h : DE X e g) (he : ∀ whole, isTrue e X.env whole = (do let v ← whole; standAt e.pos; holding [v] (truthy v)) := by intro _; rfl) : DT X e (gTst g) :=
  pt_imp (pt_val h he) fun σ H Q q => tst_q q
theorem de_and {ga gb : Md D} {rest : List Expr} (ha : DE X a ga) (hb : DE X (.BoolOp .And (b :: rest) pos) gb) : DE X (.BoolOp .And (a :: b :: rest) pos) (gAndV ga gb) :=
  pe_imp (pe_and ha hb) fun σ H Q q => by
    obtain ⟨F, ρ, d, ρ', s, eg, k⟩ := q
    obtain ⟨⟨x, ρ1⟩, e1, eg⟩ := bind_some eg
    obtain ⟨z, e3, eg⟩ := bind_some eg
    have e5 := bOf_some e3
    refine ⟨F, ρ, x, ρ1, s, e1, fun v F1 H1 p1 s1 r1 => ⟨z, by subst e5; exact dp_bl r1, ?_⟩⟩
    cases z with
    | true => exact ⟨F1, ρ1, d, ρ', s1, eg, fun u F2 H2 p2 s2 => k u F2 H2 (p1.trans p2) s2⟩
    | false =>
      cases eg
      exact k _ F1 H1 p1 s1 (.bl false)
theorem de_or {ga gb : Md D} {rest : List Expr} (ha : DE X a ga) (hb : DE X (.BoolOp .Or (b :: rest) pos) gb) : DE X (.BoolOp .Or (a :: b :: rest) pos) (gOrV ga gb) :=
  pe_imp (pe_or ha hb) fun σ H Q q => by
    obtain ⟨F, ρ, d, ρ', s, eg, k⟩ := q
    obtain ⟨⟨x, ρ1⟩, e1, eg⟩ := bind_some eg
    obtain ⟨z, e3, eg⟩ := bind_some eg
    have e5 := bOf_some e3
    refine ⟨F, ρ, x, ρ1, s, e1, fun v F1 H1 p1 s1 r1 => ⟨z, by subst e5; exact dp_bl r1, ?_⟩⟩
    cases z with
    | false => exact ⟨F1, ρ1, d, ρ', s1, eg, fun u F2 H2 p2 s2 => k u F2 H2 (p1.trans p2) s2⟩
    | true =>
      cases eg
      exact k _ F1 H1 p1 s1 (.bl true)
theorem de_one {op : BoolOp} {ga : Md D} (h : DE X a ga) : DE X (.BoolOp op [a] pos) ga := pe_one h
theorem de_not {ga : Md D} (ha : DE X a ga) : DE X (.UnaryOp .Not a pos) (gNotV ga) :=
  pe_imp (pe_not ha) fun σ H Q q => by
    obtain ⟨F, ρ, d, ρ', s, eg, k⟩ := q
    obtain ⟨⟨x, ρ1⟩, e1, eg⟩ := bind_some eg
    obtain ⟨z, e3, eg⟩ := bind_some eg
    have e5 := bOf_some e3
    cases eg
    exact ⟨F, ρ, x, _, s, e1, fun v F1 H1 p1 s1 r1 => ⟨z, by subst e5; exact dp_bl r1, k _ F1 H1 p1 s1 (.bl _)⟩⟩
theorem de_ifE {gc : Md Bool} {ga gb : Md D} (hc : DT X c gc) (ha : DE X a ga) (hb : DE X b gb) : DE X (.IfExp c a b pos) (gIfE gc ga gb) :=
  pe_imp (pe_ifExp hc ha hb) fun σ H Q q => by
    obtain ⟨F, ρ, d, ρ', s, eg, k⟩ := q
    obtain ⟨⟨x, ρ1⟩, e1, eg⟩ := bind_some eg
    refine ⟨F, ρ, x, ρ1, s, e1, fun F1 H1 p1 s1 => ?_⟩
    cases x with
    | true => exact ⟨F1, ρ1, d, ρ', s1, eg, fun u F2 H2 p2 s2 => k u F2 H2 (p1.trans p2) s2⟩
    | false => exact ⟨F1, ρ1, d, ρ', s1, eg, fun u F2 H2 p2 s2 => k u F2 H2 (p1.trans p2) s2⟩

/-! ### argument lists, displays, calls -/
theorem da_nl : DA X [] gNil := pa_imp pa_nil fun σ H Q q => by
  obtain ⟨F, ρ, d, ρ', s, eg, k⟩ := q
  cases eg
  exact k [] F H Stp.refl s .nil
theorem da_cs {g : Md D} {gs : Md (List D)} (ha : DE X e g) (hr : DA X es gs) (hs : starEach (e :: es) X.env = (false, eval e X.env) :: starEach es X.env := by rfl) : DA X (e :: es) (gCons g gs) :=
  pa_imp (pa_cons ha hr hs) fun σ H Q q => by
    obtain ⟨F, ρ, d, ρ', s, eg, k⟩ := q
    obtain ⟨⟨x, ρ1⟩, e1, eg⟩ := bind_some eg
    obtain ⟨⟨y, ρ2⟩, e2, eg⟩ := bind_some eg
    cases eg
    exact ⟨F, ρ, x, ρ1, s, e1, fun v F1 H1 p1 s1 r1 => ⟨F1, ρ1, y, _, s1, e2, fun u F2 H2 p2 s2 r2 => k (v :: u) F2 H2 (p1.trans p2) s2 (.cons (dp_mono p2.ff _ _ r1) r2)⟩⟩
def mkTup (ds : List D) : Option D := if ds.length ≤ 16777216 then some (.tuple ds) else none
def mkLst (ds : List D) : Option D := if ds.length ≤ 16777216 then some (.list ds) else none
theorem line_eq : sizeLine = 16777216 := sizeLine_eq
theorem de_tup {gs : Md (List D)} {k : Nat} (h : DA X es gs) : DE X (.Tuple es k pos) (gApp mkTup gs) :=
  pe_imp (pe_tup h) fun σ H Q q => by
    obtain ⟨F, ρ, d, ρ', s, eg, k⟩ := q
    obtain ⟨⟨x, ρ1⟩, e1, eg⟩ := bind_some eg
    obtain ⟨z, e3, eg⟩ := bind_some eg
    cases eg
    unfold mkTup at e3
    split at e3
    · rename_i hl
      cases e3
      refine ⟨F, ρ, x, ρ1, s, e1, fun vs F1 H1 p1 s1 r1 => ⟨by rw [line_eq, da_len r1]; exact hl, fun p hp => ?_⟩⟩
      have gr : Grow F1 H1 (upd F1 p (.tup vs)) (upd H1 p (.tup vs)) := Grow.val s1.sub hp
      exact k _ _ _ (p1.trans (gr.stp σ ρ1)) (s1.grow gr) (.tup (.inl (.inl upd_same)) (dpAll_mono gr.ff _ _ r1))
    · cases e3
theorem own_new {K : Kx} {F H : Hp} {p : Addr} {vs : List V} {ds : List D} (s : Same F H) (hp : H p = none) (r : RpAll K F vs ds) : OwnAt K F (upd H p (.lst vs)) p (.list ds) := ⟨none_sub s hp, .inl ⟨vs, ds, rfl, upd_same, r⟩⟩
theorem not_owns {K : Kx} {F H : Hp} {σ : L2.St} {ρ : Env} {p : Addr} (s : St K F H σ ρ) (hp : H p = none) : ¬ Owns σ ρ p := fun z => by
  obtain ⟨_, u, e⟩ := s.free z
  rw [hp] at e
  cases e
theorem df_lst {gs : Md (List D)} (h : DA X es gs) : DF X (.List es pos) (gApp mkLst gs) :=
  pe_imp (pe_lst h) fun σ H Q q => by
    obtain ⟨F, ρ, d, ρ', s, eg, k⟩ := q
    obtain ⟨⟨x, ρ1⟩, e1, eg⟩ := bind_some eg
    obtain ⟨z, e3, eg⟩ := bind_some eg
    cases eg
    unfold mkLst at e3
    split at e3
    · rename_i hl
      cases e3
      refine ⟨F, ρ, x, ρ1, s, e1, fun vs F1 H1 p1 s1 r1 => ⟨by rw [line_eq, da_len r1]; exact hl, fun p hp => ?_⟩⟩
      have gr : Grow F1 H1 F1 (upd H1 p (.lst vs)) := Grow.own s1.sub hp
      exact k p _ _ (p1.trans (gr.stp σ ρ1)) (s1.grow gr) (own_new s1.sub hp r1) (not_owns s1 hp) (p1.none hp)
    · cases e3
end
end Dn
set_option maxHeartbeats 2000000
/-! a < b of data whose first places that differ can be compared -/
namespace DnLt
open PySem PySem.SeqAt PyProof.Rows
open AutoSeq1 (wpAny_loadPart')
open MeetsSeq MeetsSeq2 MeetsSeq3 SeqRoads2

def LtAt (A : Around) (s : Shared) : List Value → List Value → Bool → Prop
  | [], [], k => k = false
  | [], _ :: _, k => k = true
  | _ :: _, [], k => k = false
  | v :: vs, w :: ws, k => (EqAt A s v w true ∧ LtAt A s vs ws k) ∨ (EqAt A s v w false ∧ RcLt A s v w k)
theorem ltAt_end {A : Around} {s : Shared} {vs ws : List Value} {k : Bool} (h : LtAt A s vs ws k) (e : vs.zip ws = []) : k = decide (vs.length < ws.length) := by
  cases vs with
  | nil =>
    cases ws with
    | nil => exact h
    | cons w ws =>
      have h1 : k = true := h
      rw [h1]
      exact (decide_eq_true (Nat.succ_pos _)).symm
  | cons v vs =>
    cases ws with
    | nil =>
      have h1 : k = false := h
      rw [h1]
      exact (decide_eq_false (Nat.not_lt_zero _)).symm
    | cons w ws => cases e

theorem tup_meets (l b : Addr) (xs ys : Array Value) (n n2 : Nat) (dd dd2 : Option Addr) (sl sl2 : Array (Option Value)) (k : Bool) :
    Meets (Builtin.«tuple.__lt__» ⟨[.ref l, .ref b], []⟩)
      (fun A R s => (s.heap.get? l = some { cls := .type "tuple", dict := dd, data := .seq xs n, slots := sl } ∧ s.heap.get? b = some { cls := .type "tuple", dict := dd2, data := .seq ys n2, slots := sl2 }) ∧
        LtAt A.in1 s xs.toList ys.toList k ∧ R (.ok (.ret (.bool k))) s) :=
  .of_wp fun prog w A R s h => by
    obtain ⟨hp, gn, dw, tk, os⟩ := s
    obtain ⟨⟨hl, hb⟩, hk, hR⟩ := h
    have f2 := AutoSeq1.sub_tuple_tuple
    wp_walk using wpAny_loadPart' hl, wpAny_loadPart' hb, wpAny_forIn_list _ (fun rest q s' => q.1 = none ∧ s' = ⟨hp, gn, dw, tk, os⟩ ∧ ∃ vs ws, rest = vs.zip ws ∧ LtAt A.in1 ⟨hp, gn, dw, tk, os⟩ vs ws k ∧
      decide (vs.length < ws.length) = decide (xs.size < ys.size)) _
    case turn =>
      rintro ⟨y, x⟩ rest q s' ⟨hq, rfl, vs, ws, hz, hk2, hs⟩
      cases vs with
      | nil => cases hz
      | cons v vs =>
        cases ws with
        | nil => cases hz
        | cons u ws =>
          rw [List.zip_cons_cons] at hz
          injection hz with h1 h2
          injection h1 with h3 h4
          subst h3 h4 h2
          have hs2 : decide (vs.length < ws.length) = decide (xs.size < ys.size) := by
            rw [← hs]
            simp
          rcases hk2 with ⟨e1, e2⟩ | ⟨e1, e2⟩
          · refine wpAny_bind (e1 prog w _ _ ?_)
            wp_walk
            exact ⟨rfl, rfl, vs, ws, rfl, e2, hs2⟩
          · refine wpAny_bind (e1 prog w _ _ ?_)
            have e3 := e2 prog w
            generalize PySem.richCompare = rc at e3 ⊢
            wp_walk
            refine e3 _ _ ?_
            wp_walk
            exact ⟨_, rfl, hR⟩
    case fin =>
      rintro ⟨q1, q2⟩ s' ⟨hq, rfl, vs, ws, hz, hk2, hs⟩
      simp only at hq
      subst hq
      have e := ltAt_end hk2 hz.symm
      rw [hs] at e
      wp_walk
      refine ⟨_, rfl, ?_⟩
      rw [e] at hR
      simpa [Builtin.Tuple.tupleCompareSizes] using hR
    case h =>
      exact ⟨rfl, rfl, xs.toList, ys.toList, by simp, hk, by simp⟩

theorem tup_lt {A : Around} {s : Shared} {l b : Addr} {xs ys : Array Value} {k : Bool} (hl : s.heap.IsTuple l xs) (hb : s.heap.IsTuple b ys) (hu : A.units < cLine) (h : LtAt A.in1 s xs.toList ys.toList k) : RcLt A s (.ref l) (.ref b) k := fun prog w E Q q => by
  obtain ⟨⟨c1, d1, a1, s1⟩, ho, hc, n, hd⟩ := id hl
  obtain ⟨⟨c2, d2, a2, s2⟩, ho2, hc2, n2, hd2⟩ := id hb
  simp only at hc hd hc2 hd2
  subst hc hd hc2 hd2
  refine richCompare_meets_room (op := .Lt) ⟨_, ho, rfl⟩ ⟨_, ho2, rfl⟩ F.slot_tuple_lt F.entry_tuple_lt (F.args_tuple_lt_2 _ _) (tup_meets l b xs ys n n2 d1 d2 s1 s2 k) ⟨⟨ho, ho2⟩, h, ?_⟩ hu
  exact (⟨(fun x => nomatch x), q⟩ : Value.bool k ≠ Value.notImplemented ∧ Q (.bool k) s)

mutual
/-- x < y, where it can be said -/
def ltB : PyData → PyData → Option Bool
  | .int a, .int b => some (decide (a < b))
  | .str a, .str b => some (decide (a.cps.toList < b.cps.toList))
  | .bool a, .bool b => some (!a && b)
  | .tuple xs, .tuple ys => ltA xs ys
  | _, _ => none
def ltA : List PyData → List PyData → Option Bool
  | [], [] => some false
  | [], _ :: _ => some true
  | _ :: _, [] => some false
  | x :: xs, y :: ys => if PyData.eqv x y = true then ltA xs ys else ltB x y
end
theorem units_in1 (A : Around) : A.in1.units = A.units + 1 := rfl
mutual
theorem rc_lt : ∀ (x y : PyData) (A : Around) (s : Shared) (a b : Value) (as bs : List Addr) (k : Bool), Reads s.heap a x as → Reads s.heap b y bs → ltB x y = some k → x.canLay0 = true → y.canLay0 = true → A.units + x.depth < cLine → RcLt A s a b k
  | .int i, y, A, s, a, b, as, bs, k, ra, rb, h, _, _, _ => by
    cases y <;> simp only [ltB, reduceCtorEq, Option.some.injEq] at h
    cases ra
    cases rb
    intro prog w E Q q
    rw [← h] at q
    exact lt_int q
  | .str i, y, A, s, a, b, as, bs, k, ra, rb, h, _, _, _ => by
    cases y <;> simp only [ltB, reduceCtorEq, Option.some.injEq] at h
    cases ra
    cases rb
    intro prog w E Q q
    rw [← h] at q
    exact lt_str q
  | .bool i, .bool j, A, s, a, b, as, bs, k, ra, rb, h, _, _, _ => by
    simp only [ltB, Option.some.injEq] at h
    cases ra
    cases rb
    intro prog w E Q q
    rw [← h] at q
    have e : (!i && j) = decide ((if i then (1 : Int) else 0) < (if j then 1 else 0)) := by cases i <;> cases j <;> rfl
    rw [e] at q
    exact lt_bool q
  | .bool _, .none, _, _, _, _, _, _, _, _, _, h, _, _, _ => by simp [ltB] at h
  | .bool _, .int _, _, _, _, _, _, _, _, _, _, h, _, _, _ => by simp [ltB] at h
  | .bool _, .str _, _, _, _, _, _, _, _, _, _, h, _, _, _ => by simp [ltB] at h
  | .bool _, .list _, _, _, _, _, _, _, _, _, _, h, _, _, _ => by simp [ltB] at h
  | .bool _, .tuple _, _, _, _, _, _, _, _, _, _, h, _, _, _ => by simp [ltB] at h
  | .bool _, .dict _, _, _, _, _, _, _, _, _, _, h, _, _, _ => by simp [ltB] at h
  | .tuple xs, y, A, s, a, b, as, bs, k, ra, rb, h, c1, c2, hu => by
    cases y <;> simp [ltB] at h
    rename_i ys
    cases ra with
    | tuple k1 k2 k3 k4 =>
      cases rb with
      | tuple m1 m2 m3 m4 =>
        have hd : A.units + (PyData.depthAll xs + 1) < cLine := by simpa [PyData.depth] using hu
        exact tup_lt ⟨_, k1, k2, _, k3⟩ ⟨_, m1, m2, _, m3⟩ (by omega) (rc_ltA xs ys A.in1 s _ _ _ _ k k4 m4 h (by simpa [PyData.canLay0] using c1) (by simpa [PyData.canLay0] using c2) (by rw [units_in1]; omega))
  | .none, y, _, _, _, _, _, _, _, _, _, h, _, _, _ => by cases y <;> simp [ltB] at h
  | .list _, y, _, _, _, _, _, _, _, _, _, h, _, _, _ => by cases y <;> simp [ltB] at h
  | .dict _, y, _, _, _, _, _, _, _, _, _, h, _, _, _ => by cases y <;> simp [ltB] at h
theorem rc_ltA : ∀ (xs ys : List PyData) (A : Around) (s : Shared) (vs ws : List Value) (as bs : List Addr) (k : Bool), ReadsAll s.heap vs xs as → ReadsAll s.heap ws ys bs → ltA xs ys = some k → PyData.canLayAll0 xs = true → PyData.canLayAll0 ys = true →
    A.units + PyData.depthAll xs < cLine → LtAt A s vs ws k
  | [], [], A, s, _, _, _, _, k, ra, rb, h, _, _, _ => by
    cases ra
    cases rb
    simp only [ltA, Option.some.injEq] at h
    exact (show k = false from h.symm)
  | [], _ :: _, A, s, _, _, _, _, k, ra, rb, h, _, _, _ => by
    cases ra
    cases rb
    simp only [ltA, Option.some.injEq] at h
    exact (show k = true from h.symm)
  | _ :: _, [], A, s, _, _, _, _, k, ra, rb, h, _, _, _ => by
    cases ra
    cases rb
    simp only [ltA, Option.some.injEq] at h
    exact (show k = false from h.symm)
  | x :: xs, y :: ys, A, s, _, _, _, _, k, ra, rb, h, c1, c2, hu => by
    have d1 : x.canLay0 = true ∧ PyData.canLayAll0 xs = true := by simpa [PyData.canLayAll0] using c1
    have d2 : y.canLay0 = true ∧ PyData.canLayAll0 ys = true := by simpa [PyData.canLayAll0] using c2
    have hd : A.units + max x.depth (PyData.depthAll xs) < cLine := by simpa [PyData.depthAll] using hu
    cases ra with
    | cons r rs =>
      cases rb with
      | cons t ts =>
        have e := eqAt_reads x y A s _ _ _ _ r t d1.1 d2.1 (by omega)
        rw [ltA] at h
        by_cases q : PyData.eqv x y = true
        · rw [if_pos q] at h
          rw [q] at e
          exact .inl ⟨e, rc_ltA xs ys A s _ _ _ _ k rs ts h d1.2 d2.2 (by omega)⟩
        · rw [if_neg q] at h
          have q' : PyData.eqv x y = false := by simpa using q
          rw [q'] at e
          exact .inr ⟨e, rc_lt x y A s _ _ _ _ k r t h d1.1 d2.1 (by omega)⟩
end
end DnLt
set_option maxHeartbeats 2000000
/-! operators and built-ins over data -/
namespace Dn
open PySem PySem.Spec PyProof.Rows L2

def big (n : Nat) : Bool := decide (n ≤ 16777216)
def addD : D → D → Option D
  | .int i, .int j => some (.int (i + j))
  | .str a, .str b => if a.length + b.length ≤ 16777216 then some (.str (a ++ b)) else none
  | .list a, .list b => if a.length + b.length ≤ 16777216 then some (.list (a ++ b)) else none
  | .tuple a, .tuple b => if a.length + b.length ≤ 16777216 then some (.tuple (a ++ b)) else none
  | _, _ => none
def subD : D → D → Option D
  | .int i, .int j => some (.int (i - j))
  | _, _ => none
def mulD : D → D → Option D
  | .int i, .int j => if i.natAbs.log2 + j.natAbs.log2 < 1000000 then some (.int (i * j)) else none
  | _, _ => none
/-- a product with a factor of less than 64 bits -/
def mulS : D → D → Option D
  | .int i, .int j => if -(2 ^ 64) < j ∧ j < 2 ^ 64 then some (.int (i * j)) else none
  | _, _ => none
def modD : D → D → Option D
  | .int i, .int j => if 0 < j then some (.int (i % j)) else none
  | _, _ => none
def fdivD : D → D → Option D
  | .int i, .int j => if 0 < j ∧ j < 18446744073709551616 then some (.int (i / j)) else none
  | _, _ => none
def negD : D → Option D
  | .int i => some (.int (-i))
  | _ => none
/-- the same, as Python's == says it -/
def eqT (d e : D) : Option Bool := match d, e with
  | .int a, .int b => some (decide (a = b))
  | .str a, .str b => some (decide (a = b))
  | .bool a, .bool b => some (decide (a = b))
  | .none, .none => some true
  | d, e => if SeqAt.shaped d = true ∧ SeqAt.shaped e = true then some (PyData.eqv d e) else none
def eqD (d e : D) : Option D := (eqT d e).bind fun b => some (.bool b)
def neD (d e : D) : Option D := (eqT d e).bind fun b => some (.bool (!b))
def ltT (d e : D) : Option Bool := match d, e with
  | .int a, .int b => some (decide (a < b))
  | .str a, .str b => some (decide (a.cps.toList < b.cps.toList))
  | d, e => if SeqAt.shaped d = true ∧ SeqAt.shaped e = true then DnLt.ltB d e else none
def ltD (d e : D) : Option D := (ltT d e).bind fun b => some (.bool b)
def leD : D → D → Option D
  | .int a, .int b => some (.bool (decide (a ≤ b)))
  | _, _ => none
def gtD : D → D → Option D
  | .int a, .int b => some (.bool (decide (b < a)))
  | _, _ => none
def geD : D → D → Option D
  | .int a, .int b => some (.bool (decide (b ≤ a)))
  | _, _ => none
def isN : D → Bool
  | .none => true
  | _ => false
def isD (d e : D) : Option D := match d, e with
  | d, .none => some (.bool (isN d))
  | .bool a, .bool b => some (.bool (decide (a = b)))
  | _, _ => none
def isntD (d e : D) : Option D := match d, e with
  | d, .none => some (.bool (!isN d))
  | .bool a, .bool b => some (.bool (!decide (a = b)))
  | _, _ => none

section
variable {X : Cx}
theorem r2_int {f : D → D → Option D} {x y : V} {H : Hp} {Q : VK} (h : rP2 (cxK X) f x y H Q) {i j : Int} (hx : x = .int i) (hy : y = .int j) {v : V} {r : D} (e : f (.int i) (.int j) = some r) (hv : ∀ F, Rp (cxK X) F v r) : Q v H := by
  subst hx hy
  obtain ⟨F, d, e', r', s, hd, he, ef, k⟩ := h
  cases hd
  cases he
  rw [e] at ef
  cases ef
  exact k v F H (Grow.refl s) (hv F)
theorem dp_ii {K : Kx} {F : Hp} {x y : V} {i j : Int} (hx : Rp K F x (.int i)) (hy : Rp K F y (.int j)) : x = .int i ∧ y = .int j := by
  cases hx
  cases hy
  exact ⟨rfl, rfl⟩
theorem op_addD : OpR X (binaryOp .Add) (rP2 (cxK X) addD) := by
  intro pins s σ H x y v u Q I rx ry h
  obtain ⟨F, d, e, r, sf, hd, he, ef, k⟩ := h
  unfold addD at ef
  split at ef
  · cases ef
    cases hd
    cases he
    exact op_add pins s σ H _ _ v u Q I rx ry ⟨_, _, rfl, rfl, k _ F H (Grow.refl sf) (.int _)⟩
  · split at ef
    · rename_i hl
      cases ef
      cases hd
      cases he
      exact op_add_str pins s σ H _ _ v u Q I rx ry ⟨_, _, rfl, rfl, by rw [line_eq]; exact hl, k _ F H (Grow.refl sf) (.str _)⟩
    · cases ef
  · split at ef
    · rename_i as bs hl
      cases ef
      cases hd with
      | lst h1 d1 =>
        cases he with
        | lst h2 d2 =>
          cases rx
          cases ry
          rename_i l xs b ys
          obtain ⟨its, r1, p1, z1⟩ := I.list (sf.seq h1)
          obtain ⟨its2, r2, p2, z2⟩ := I.list (sf.seq h2)
          obtain ⟨o1, n1, g1, c1, q1, t1⟩ := p1
          obtain ⟨o2, n2, g2, c2, q2, t2⟩ := p2
          obtain ⟨cls, dd, data, sl⟩ := o1
          obtain ⟨cls2, dd2, data2, sl2⟩ := o2
          simp only at c1 q1 t1 c2 q2 t2
          subst c1 q1 t1 c2 q2 t2
          have hsz : xs.length + ys.length ≤ sizeLine := by rw [line_eq, da_len d1, da_len d2]; exact hl
          refine concat_meets ⟨_, g1, rfl⟩ ⟨_, g2, rfl⟩ noFill_list_add seq_list_add PySem.F.slot_list_add PySem.F.entry_list_add (PySem.F.args_list_add_2 _ _)
            (list_addW l b its.toArray its2.toArray n1 n2 none none sl sl2 (by simpa [← r1.length, ← r2.length] using hsz)) ⟨g1, g2, ?_⟩
          have ea : its.toArray ++ its2.toArray = (its ++ its2).toArray := by simp
          rw [ea]
          have gr : Grow F H (upd F s.heap.objs.size (.lst (xs ++ ys))) (upd H s.heap.objs.size (.lst (xs ++ ys))) := Grow.val sf I.fresh
          exact ⟨.ref _, _, I.lnew (t' := s.toks) (r1.append r2) (by rw [List.length_append]; exact hsz), rfl, k _ _ _ gr (.lst (.inl (.inl upd_same)) (dpAll_mono gr.ff _ _ (da_app d1 d2)))⟩
    · cases ef
  · split at ef
    · rename_i as bs hl
      cases ef
      cases hd with
      | tup h1 d1 =>
        cases he with
        | tup h2 d2 =>
          rename_i a xs b ys
          have hsz : xs.length + ys.length ≤ sizeLine := by rw [line_eq, da_len d1, da_len d2]; exact hl
          refine op_catA pins s σ H _ _ v u Q I rx ry ⟨a, b, xs, ys, rfl, rfl, seqT_same sf h1, seqT_same sf h2, hsz, fun e => ?_, fun _ e => ?_, fun _ _ p hp => ?_⟩
          · subst e
            cases d1
            exact k _ F H (Grow.refl sf) (.tup h2 d2)
          · subst e
            cases d2
            rw [List.append_nil] at k
            exact k _ F H (Grow.refl sf) (.tup h1 d1)
          · have gr : Grow F H (upd F p (.tup (xs ++ ys))) (upd H p (.tup (xs ++ ys))) := Grow.val sf hp
            exact k _ _ _ gr (.tup (.inl (.inl upd_same)) (dpAll_mono gr.ff _ _ (da_app d1 d2)))
    · cases ef
  · cases ef
theorem op_subD : OpR X (binaryOp .Sub) (rP2 (cxK X) subD) := by
  intro pins s σ H x y v u Q I rx ry h
  obtain ⟨F, d, e, r, sf, hd, he, ef, k⟩ := h
  unfold subD at ef
  split at ef
  · cases ef
    cases hd
    cases he
    exact op_sub pins s σ H _ _ v u Q I rx ry ⟨_, _, rfl, rfl, k _ F H (Grow.refl sf) (.int _)⟩
  · cases ef
theorem op_mulD : OpR X (binaryOp .Mult) (rP2 (cxK X) mulD) := by
  intro pins s σ H x y v u Q I rx ry h
  obtain ⟨F, d, e, r, sf, hd, he, ef, k⟩ := h
  unfold mulD at ef
  split at ef
  · split at ef
    · rename_i hl
      cases ef
      cases hd
      cases he
      exact op_mulW pins s σ H _ _ v u Q I rx ry ⟨_, _, rfl, rfl, hl, k _ F H (Grow.refl sf) (.int _)⟩
    · cases ef
  · cases ef
theorem op_mulS : OpR X (binaryOp .Mult) (rP2 (cxK X) mulS) := by
  intro pins s σ H x y v u Q I rx ry h
  obtain ⟨F, d, e, r, sf, hd, he, ef, k⟩ := h
  unfold mulS at ef
  split at ef
  · split at ef
    · rename_i hl
      cases ef
      cases hd
      cases he
      exact op_mul pins s σ H _ _ v u Q I rx ry ⟨_, _, rfl, rfl, .inr hl, k _ F H (Grow.refl sf) (.int _)⟩
    · cases ef
  · cases ef
theorem op_modD : OpR X (binaryOp .Mod) (rP2 (cxK X) modD) := by
  intro pins s σ H x y v u Q I rx ry h
  obtain ⟨F, d, e, r, sf, hd, he, ef, k⟩ := h
  unfold modD at ef
  split at ef
  · split at ef
    · rename_i hl
      cases ef
      cases hd
      cases he
      exact op_mod pins s σ H _ _ v u Q I rx ry ⟨_, _, rfl, rfl, hl, k _ F H (Grow.refl sf) (.int _)⟩
    · cases ef
  · cases ef
theorem log_64 {j : Int} (h0 : 0 < j) (h : j < 18446744073709551616) : j.natAbs.log2 < 9000 := by
  have z : j.natAbs ≠ 0 := by omega
  have h1 : j.natAbs < 2 ^ 64 := by omega
  exact Nat.lt_of_lt_of_le ((Nat.log2_lt z).mpr h1) (by decide)
theorem op_fdivD : OpR X (binaryOp .FloorDiv) (rP2 (cxK X) fdivD) := by
  intro pins s σ H x y v u Q I rx ry h
  obtain ⟨F, d, e, r, sf, hd, he, ef, k⟩ := h
  unfold fdivD at ef
  split at ef
  · split at ef
    · rename_i hl
      cases ef
      cases hd
      cases he
      exact op_fdivW pins s σ H _ _ v u Q I rx ry ⟨_, _, rfl, rfl, ⟨hl.1, log_64 hl.1 hl.2⟩, k _ F H (Grow.refl sf) (.int _)⟩
    · cases ef
  · cases ef
theorem un_negD : UnR X (unaryOp .USub) (rP1 (cxK X) negD) := by
  intro pins s σ H x v Q I rx h
  obtain ⟨F, d, r, sf, hd, ef, k⟩ := h
  unfold negD at ef
  split at ef
  · cases ef
    cases hd
    exact un_neg pins s σ H _ v Q I rx ⟨_, rfl, k _ F H (Grow.refl sf) (.int _)⟩
  · cases ef
theorem op_eqD' (hu : X.A.units + 64 < cLine) : OpR X (compareOp .Eq) (rP2 (cxK X) eqD) := by
  intro pins s σ H x y v u Q I rx ry h
  obtain ⟨F, d, e, r, sf, hd, he, ef, k⟩ := h
  obtain ⟨b, e1, e2⟩ := bind_some ef
  cases e2
  have q := k (.bl b) F H (Grow.refl sf) (.bl _)
  unfold eqT at e1
  split at e1
  · cases e1
    cases hd
    cases he
    refine op_eq pins s σ H _ _ v u Q I rx ry ⟨rfl, ?_⟩
    rw [dec_int, Bool.beq_eq_decide_eq]
    exact q
  · cases e1
    cases hd
    cases he
    refine op_eq pins s σ H _ _ v u Q I rx ry ⟨rfl, ?_⟩
    rw [dec_str, Bool.beq_eq_decide_eq]
    exact q
  · cases e1
    cases hd
    cases he
    refine op_eq pins s σ H _ _ v u Q I rx ry ⟨rfl, ?_⟩
    rw [dec_bl, Bool.beq_eq_decide_eq]
    exact q
  · cases e1
    cases hd
    cases he
    exact op_eq pins s σ H _ _ v u Q I rx ry ⟨rfl, q⟩
  · split at e1
    · rename_i hs
      cases e1
      exact op_eqD hu pins s σ H _ _ v u Q I rx ry ⟨d, e, rp_dp (dp_mono sf _ _ hd) (SeqAt.canLay_of_shaped hs.1), rp_dp (dp_mono sf _ _ he) (SeqAt.canLay_of_shaped hs.2), hs.1, hs.2, q⟩
    · cases e1
theorem op_neD' (hu : X.A.units + 64 < cLine) : OpR X (compareOp .NotEq) (rP2 (cxK X) neD) := by
  intro pins s σ H x y v u Q I rx ry h
  obtain ⟨F, d, e, r, sf, hd, he, ef, k⟩ := h
  obtain ⟨b, e1, e2⟩ := bind_some ef
  cases e2
  have q := k (.bl (!b)) F H (Grow.refl sf) (.bl _)
  unfold eqT at e1
  split at e1
  · cases e1
    cases hd
    cases he
    refine op_ne pins s σ H _ _ v u Q I rx ry ⟨rfl, ?_⟩
    rw [dec_int, Bool.beq_eq_decide_eq]
    exact q
  · cases e1
    cases hd
    cases he
    refine op_ne pins s σ H _ _ v u Q I rx ry ⟨rfl, ?_⟩
    rw [dec_str, Bool.beq_eq_decide_eq]
    exact q
  · cases e1
    cases hd
    cases he
    refine op_ne pins s σ H _ _ v u Q I rx ry ⟨rfl, ?_⟩
    rw [dec_bl, Bool.beq_eq_decide_eq]
    exact q
  · cases e1
    cases hd
    cases he
    exact op_ne pins s σ H _ _ v u Q I rx ry ⟨rfl, q⟩
  · split at e1
    · rename_i hs
      cases e1
      exact op_neD hu pins s σ H _ _ v u Q I rx ry ⟨d, e, rp_dp (dp_mono sf _ _ hd) (SeqAt.canLay_of_shaped hs.1), rp_dp (dp_mono sf _ _ he) (SeqAt.canLay_of_shaped hs.2), hs.1, hs.2, q⟩
    · cases e1
theorem op_ltD (hu : X.A.units + 64 < cLine) : OpR X (compareOp .Lt) (rP2 (cxK X) ltD) := by
  intro pins s σ H x y v u Q I rx ry h
  obtain ⟨F, d, e, r, sf, hd, he, ef, k⟩ := h
  obtain ⟨b, e1, e2⟩ := bind_some ef
  cases e2
  have q := k (.bl b) F H (Grow.refl sf) (.bl _)
  unfold ltT at e1
  split at e1
  · cases e1
    cases hd
    cases he
    exact op_lt pins s σ H _ _ v u Q I rx ry ⟨_, _, rfl, rfl, q⟩
  · cases e1
    cases hd
    cases he
    exact op_lt_str pins s σ H _ _ v u Q I rx ry ⟨_, _, rfl, rfl, q⟩
  · split at e1
    · rename_i hs
      obtain ⟨as, r1⟩ := Dp.reads I d x v (rp_dp (dp_mono sf _ _ hd) (SeqAt.canLay_of_shaped hs.1)) rx
      obtain ⟨bs, r2⟩ := Dp.reads I e y u (rp_dp (dp_mono sf _ _ he) (SeqAt.canLay_of_shaped hs.2)) ry
      have hdp := SeqAt.depth_of_shaped hs.1
      exact DnLt.rc_lt d e X.A s v u as bs b r1 r2 e1 (SeqAt.canLay_of_shaped hs.1) (SeqAt.canLay_of_shaped hs.2) (by omega) X.prog X.w _ _ ⟨.bl b, H, I, rfl, q⟩
    · cases e1
theorem op_leD : OpR X (compareOp .LtE) (rP2 (cxK X) leD) := by
  intro pins s σ H x y v u Q I rx ry h
  obtain ⟨F, d, e, r, sf, hd, he, ef, k⟩ := h
  unfold leD at ef
  split at ef
  · cases ef
    cases hd
    cases he
    exact op_le pins s σ H _ _ v u Q I rx ry ⟨_, _, rfl, rfl, k _ F H (Grow.refl sf) (.bl _)⟩
  · cases ef
theorem op_gtD : OpR X (compareOp .Gt) (rP2 (cxK X) gtD) := by
  intro pins s σ H x y v u Q I rx ry h
  obtain ⟨F, d, e, r, sf, hd, he, ef, k⟩ := h
  unfold gtD at ef
  split at ef
  · cases ef
    cases hd
    cases he
    exact op_gt pins s σ H _ _ v u Q I rx ry ⟨_, _, rfl, rfl, k _ F H (Grow.refl sf) (.bl _)⟩
  · cases ef
theorem op_geD : OpR X (compareOp .GtE) (rP2 (cxK X) geD) := by
  intro pins s σ H x y v u Q I rx ry h
  obtain ⟨F, d, e, r, sf, hd, he, ef, k⟩ := h
  unfold geD at ef
  split at ef
  · cases ef
    cases hd
    cases he
    exact op_ge pins s σ H _ _ v u Q I rx ry ⟨_, _, rfl, rfl, k _ F H (Grow.refl sf) (.bl _)⟩
  · cases ef
theorem isN_dp {K : Kx} {F : Hp} {x : V} {d : D} (h : Rp K F x d) : decide (x = .non) = isN d := by
  cases h <;> rfl
theorem op_isD : OpR X (compareOp .Is) (rP2 (cxK X) isD) := by
  intro pins s σ H x y v u Q I rx ry h
  obtain ⟨F, d, e, r, sf, hd, he, ef, k⟩ := h
  unfold isD at ef
  split at ef
  · cases ef
    cases he
    refine op_isN pins s σ H _ _ v u Q I rx ry ⟨rfl, ?_⟩
    rw [isN_dp hd]
    exact k _ F H (Grow.refl sf) (.bl _)
  · cases ef
    cases hd
    cases he
    exact op_is_bl pins s σ H _ _ v u Q I rx ry ⟨_, _, rfl, rfl, k _ F H (Grow.refl sf) (.bl _)⟩
  · cases ef
theorem op_isntD : OpR X (compareOp .IsNot) (rP2 (cxK X) isntD) := by
  intro pins s σ H x y v u Q I rx ry h
  obtain ⟨F, d, e, r, sf, hd, he, ef, k⟩ := h
  unfold isntD at ef
  split at ef
  · cases ef
    cases he
    refine op_notN pins s σ H _ _ v u Q I rx ry ⟨rfl, ?_⟩
    rw [isN_dp hd]
    exact k _ F H (Grow.refl sf) (.bl _)
  · cases ef
    cases hd
    cases he
    exact op_isnot_bl pins s σ H _ _ v u Q I rx ry ⟨_, _, rfl, rfl, k _ F H (Grow.refl sf) (.bl _)⟩
  · cases ef
end

/-! ### items, slices -/
def ixA {α : Type} (xs : List α) (i : Int) : Option α := if 0 ≤ i then xs[i.toNat]? else if -(xs.length : Int) ≤ i then xs[(i + xs.length).toNat]? else none
def ixD : D → D → Option D
  | .list xs, .int i => ixA xs i
  | .tuple xs, .int i => ixA xs i
  | _, _ => none
theorem ixA_at {α : Type} {xs : List α} {i : Int} {x : α} (h : ixA xs i = some x) : atI xs i = some x := by
  unfold ixA at h
  unfold atI ixN
  split at h
  · rename_i h0
    have hl : i.toNat < xs.length := (List.getElem?_eq_some_iff.mp h).1
    rw [if_pos h0, if_pos (by omega)]
    exact h
  · rename_i h0
    split at h
    · rename_i h1
      rw [if_neg h0, if_pos h1]
      exact h
    · cases h
theorem da_ix {K : Kx} {F : Hp} {vs : List V} {ds : List D} {i : Int} {d : D} (r : RpAll K F vs ds) (h : ixA ds i = some d) : ∃ v, ixA vs i = some v ∧ Rp K F v d := by
  have hl := da_len r
  unfold ixA at h ⊢
  split at h
  · rename_i h0
    rw [if_pos h0]
    exact da_at r h
  · rename_i h0
    rw [if_neg h0]
    split at h
    · rename_i h1
      rw [if_pos (by rw [hl]; exact h1), hl]
      exact da_at r h
    · cases h
section
variable {X : Cx}
theorem ix_D : IxR X (rP2 (cxK X) ixD) := by
  intro value slice pins s σ H x y v u Q I rx ry h hs
  obtain ⟨F, d, e, r, sf, hd, he, ef, k⟩ := h
  unfold ixD at ef
  split at ef
  · cases he
    cases hd with
    | lst h1 d1 =>
      obtain ⟨z, e1, rz⟩ := da_ix d1 ef
      exact ix_list value slice pins s σ H _ _ v u Q I rx ry ⟨_, _, _, z, rfl, rfl, sf.seq h1, ixA_at e1, k z F H (Grow.refl sf) rz⟩ hs
  · cases he
    cases hd with
    | tup h1 d1 =>
      obtain ⟨z, e1, rz⟩ := da_ix d1 ef
      exact ix_tup value slice pins s σ H _ _ v u Q I rx ry ⟨_, _, _, z, rfl, rfl, seqT_same sf h1, ixA_at e1, k z F H (Grow.refl sf) rz⟩ hs
  · cases ef
end
def gNoP : Md (Option Int) := fun ρ => some (none, ρ)
def iOf : D → Option Int
  | .int i => some i
  | _ => none
def gPart (g : Md D) : Md (Option Int) := fun ρ => (g ρ).bind fun p => (iOf p.1).bind fun i => some (some i, p.2)
def tDO (K : Kx) (g : Md (Option Int)) : TO := fun σ H Q => ∃ (F : Hp) (ρ : Env) (d : Option Int) (ρ' : Env), St K F H σ ρ ∧ g ρ = some (d, ρ') ∧
  ∀ F' H', Stp F σ ρ H F' σ ρ' H' → St K F' H' σ ρ' → Q d H'
abbrev DO (X : Cx) (e : Option Expr) (g : Md (Option Int)) : Prop := PO X e (tDO (cxK X) g)
theorem po_imp {X : Cx} {e : Option Expr} {t t' : TO} (h : PO X e t) (i : ∀ σ H Q, t' σ H Q → t σ H Q) : PO X e t' := ⟨fun pins s σ H Q I q => h.run pins s σ H Q I (i σ H Q q)⟩
theorem iOf_some {d : D} {i : Int} (h : iOf d = some i) : d = .int i := by
  cases d <;> simp [iOf] at h
  subst h
  rfl
theorem do_none {X : Cx} : DO X none gNoP := po_imp po_none fun σ H Q q => by
  obtain ⟨F, ρ, d, ρ', s, eg, k⟩ := q
  cases eg
  exact k F H Stp.refl s
theorem do_some {X : Cx} {e : Expr} {g : Md D} (h : DE X e g) : DO X (some e) (gPart g) := po_imp (po_some h) fun σ H Q q => by
  obtain ⟨F, ρ, d, ρ', s, eg, k⟩ := q
  obtain ⟨⟨x, ρ1⟩, e1, eg1⟩ := bind_some eg
  obtain ⟨z, e3, eg2⟩ := bind_some eg1
  cases eg2
  have e5 := iOf_some e3
  subst e5
  exact ⟨F, ρ, _, _, s, e1, fun v F1 H1 p1 s1 r1 => ⟨z, by cases r1; rfl, k F1 H1 p1 s1⟩⟩
def cutA {α : Type} (xs : List α) (lo hi : Option Int) : List α := (xs.drop (HT.sIx xs.length 0 lo)).take (HT.sIx xs.length xs.length hi - HT.sIx xs.length 0 lo)
def cutD (d : D) (lo hi : Option Int) : Option D := match d with
  | .list xs => some (.list (cutA xs lo hi))
  | .tuple xs => some (.tuple (cutA xs lo hi))
  | _ => none
def gSl (ga : Md D) (gl gh : Md (Option Int)) : Md D := fun ρ => (ga ρ).bind fun p => (gl p.2).bind fun q => (gh q.2).bind fun r => (cutD p.1 q.1 r.1).bind fun d => some (d, r.2)
theorem da_cut {K : Kx} {F : Hp} {vs : List V} {ds : List D} (r : RpAll K F vs ds) (lo hi : Option Int) : RpAll K F (cutV vs lo hi) (cutA ds lo hi) := by
  have hl := da_len r
  unfold cutV cutA
  rw [hl]
  exact da_take _ (da_drop _ r)
section
variable {X : Cx} {e : Expr} {lo hi : Option Expr} {pos p2 : Pos}
theorem de_slice {ga : Md D} {gl gh : Md (Option Int)} (he : DE X e ga) (hl : DO X lo gl) (hh : DO X hi gh) : DE X (.Subscript e (.Slice lo hi none p2) pos) (gSl ga gl gh) :=
  pe_imp (pe_slice (sl_list.or sl_tupA) he hl hh) fun σ H Q q => by
    obtain ⟨F, ρ, d, ρ', s, eg, k⟩ := q
    obtain ⟨⟨x, ρ1⟩, e1, eg1⟩ := bind_some eg
    obtain ⟨⟨l, ρ2⟩, e2, eg2⟩ := bind_some eg1
    obtain ⟨⟨h, ρ3⟩, e3, eg3⟩ := bind_some eg2
    obtain ⟨z, e4, eg4⟩ := bind_some eg3
    cases eg4
    refine ⟨F, ρ, x, ρ1, s, e1, fun v F1 H1 p1 s1 r1 => ⟨F1, ρ1, l, ρ2, s1, e2, fun F2 H2 p2 s2 => ⟨F2, ρ2, h, _, s2, e3, fun F3 H3 p3 s3 => ?_⟩⟩⟩
    have pp := p1.trans (p2.trans p3)
    have r3 : Rp (cxK X) F3 v x := dp_mono (p2.ff.trans p3.ff) _ _ r1
    have e5 : cutD x l h = some _ := e4
    clear e4 eg3 eg2 eg1 eg
    cases x with
    | list xs =>
      cases e5
      cases r3 with
      | @lst a vs _ h1 d1 =>
        refine .inl ⟨a, vs, rfl, s3.sub.seq h1, fun p hp => ?_⟩
        have gr : Grow F3 H3 (upd F3 p (.lst (cutV vs l h))) (upd H3 p (.lst (cutV vs l h))) := Grow.val s3.sub hp
        exact k _ _ _ (pp.trans (gr.stp σ _)) (s3.grow gr) (.lst (.inl (.inl upd_same)) (dpAll_mono gr.ff _ _ (da_cut d1 l h)))
    | tuple xs =>
      cases e5
      cases r3 with
      | @tup a vs _ h1 d1 =>
        refine .inr ⟨a, vs, rfl, seqT_same s3.sub h1, fun hw => ?_, fun _ p hp => ?_⟩
        · have hl := da_len d1
          have ec : ∀ (xs : List D), HT.sIx xs.length 0 l = 0 ∧ HT.sIx xs.length xs.length h = xs.length → cutA xs l h = xs := fun xs w => by
            unfold cutA
            rw [w.1, w.2]
            simp
          rw [ec _ (by rw [← hl]; exact hw)] at k
          exact k _ _ _ pp s3 (.tup h1 d1)
        · have gr : Grow F3 H3 (upd F3 p (.tup (cutV vs l h))) (upd H3 p (.tup (cutV vs l h))) := Grow.val s3.sub hp
          exact k _ _ _ (pp.trans (gr.stp σ _)) (s3.grow gr) (.tup (.inl (.inl upd_same)) (dpAll_mono gr.ff _ _ (da_cut d1 l h)))
    | none => cases e5
    | bool _ => cases e5
    | int _ => cases e5
    | str _ => cases e5
    | dict _ => cases e5
end

/-! ### built-ins -/
def lenF : List D → Option D
  | [.list xs] => some (.int xs.length)
  | [.tuple xs] => some (.int xs.length)
  | [.str x] => if x.length ≤ 16777216 then some (.int x.length) else none
  | _ => none
def intF : List D → Option D
  | [.int i] => some (.int i)
  | [.bool b] => some (.int (if b then 1 else 0))
  | _ => none
def absF : List D → Option D
  | [.int i] => some (.int (if i < 0 then -i else i))
  | _ => none
def maxF : List D → Option D
  | [.int i, .int j] => some (.int (if j > i then j else i))
  | _ => none
def minF : List D → Option D
  | [.int i, .int j] => some (.int (if j < i then j else i))
  | _ => none
def tupF : List D → Option D
  | [.list xs] => some (.tuple xs)
  | [.tuple xs] => some (.tuple xs)
  | _ => none
def lstF : List D → Option D
  | [.list xs] => some (.list xs)
  | [.tuple xs] => some (.list xs)
  | _ => none
def strF : List D → Option D
  | [.int i] => if i.natAbs.log2 < 1920 then some (.str (toString i)) else none
  | _ => none
def ordF : List D → Option D
  | [.str x] => if x.length = 1 then some (.int (x.cps.getD 0 0 : Nat)) else none
  | _ => none
section
variable {X : Cx}
theorem da1 {K : Kx} {F : Hp} {vs : List V} {d : D} (h : RpAll K F vs [d]) : ∃ v, vs = [v] ∧ Rp K F v d := by
  cases h with
  | cons h t =>
    cases t
    exact ⟨_, rfl, h⟩
theorem da2 {K : Kx} {F : Hp} {vs : List V} {d e : D} (h : RpAll K F vs [d, e]) : ∃ v w, vs = [v, w] ∧ Rp K F v d ∧ Rp K F w e := by
  cases h with
  | cons h t =>
    obtain ⟨w, rfl, r⟩ := da1 t
    exact ⟨_, w, rfl, h, r⟩
theorem call_lenD : CallR X (.builtin "len") (rPn (cxK X) lenF) := by
  intro pins s σ H xs us Q I rx h
  obtain ⟨F, ds, r, sf, hd, ef, k⟩ := h
  unfold lenF at ef
  split at ef
  · cases ef
    obtain ⟨v, rfl, hv⟩ := da1 hd
    cases hv with
    | lst h1 d1 => exact call_len_seq pins s σ H _ us Q I rx ⟨_, _, rfl, .inl (sf.seq h1), by rw [da_len d1]; exact k _ F H (Grow.refl sf) (.int _)⟩
  · cases ef
    obtain ⟨v, rfl, hv⟩ := da1 hd
    cases hv with
    | tup h1 d1 => exact call_len_seq pins s σ H _ us Q I rx ⟨_, _, rfl, .inr (seqT_same sf h1), by rw [da_len d1]; exact k _ F H (Grow.refl sf) (.int _)⟩
  · split at ef
    · rename_i hl
      cases ef
      obtain ⟨v, rfl, hv⟩ := da1 hd
      cases hv
      exact call_len_str pins s σ H _ us Q I rx ⟨_, rfl, by rw [line_eq]; exact hl, k _ F H (Grow.refl sf) (.int _)⟩
    · cases ef
  · cases ef
theorem call_intD : CallR X (.type "int") (rPn (cxK X) intF) := by
  intro pins s σ H xs us Q I rx h
  obtain ⟨F, ds, r, sf, hd, ef, k⟩ := h
  unfold intF at ef
  split at ef
  · cases ef
    obtain ⟨v, rfl, hv⟩ := da1 hd
    cases hv
    exact call_int1 pins s σ H _ us Q I rx (.inl ⟨_, rfl, k _ F H (Grow.refl sf) (.int _)⟩)
  · cases ef
    obtain ⟨v, rfl, hv⟩ := da1 hd
    cases hv
    exact call_int1 pins s σ H _ us Q I rx (.inr ⟨_, rfl, k _ F H (Grow.refl sf) (.int _)⟩)
  · cases ef
theorem call_absD : CallR X (.builtin "abs") (rPn (cxK X) absF) := by
  intro pins s σ H xs us Q I rx h
  obtain ⟨F, ds, r, sf, hd, ef, k⟩ := h
  unfold absF at ef
  split at ef
  · cases ef
    obtain ⟨v, rfl, hv⟩ := da1 hd
    cases hv
    exact call_abs pins s σ H _ us Q I rx ⟨_, rfl, k _ F H (Grow.refl sf) (.int _)⟩
  · cases ef
theorem call_maxD (hc : X.calm = true) : CallR X (.builtin "max") (rPn (cxK X) maxF) := by
  intro pins s σ H xs us Q I rx h
  obtain ⟨F, ds, r, sf, hd, ef, k⟩ := h
  unfold maxF at ef
  split at ef
  · cases ef
    obtain ⟨v, w, rfl, hv, hw⟩ := da2 hd
    cases hv
    cases hw
    exact call_max2 hc pins s σ H _ us Q I rx ⟨_, _, rfl, k _ F H (Grow.refl sf) (.int _)⟩
  · cases ef
theorem call_minD (hc : X.calm = true) : CallR X (.builtin "min") (rPn (cxK X) minF) := by
  intro pins s σ H xs us Q I rx h
  obtain ⟨F, ds, r, sf, hd, ef, k⟩ := h
  unfold minF at ef
  split at ef
  · cases ef
    obtain ⟨v, w, rfl, hv, hw⟩ := da2 hd
    cases hv
    cases hw
    exact call_min2 hc pins s σ H _ us Q I rx ⟨_, _, rfl, k _ F H (Grow.refl sf) (.int _)⟩
  · cases ef
theorem call_tupD : CallR X (.type "tuple") (rPn (cxK X) tupF) := by
  intro pins s σ H xs us Q I rx h
  obtain ⟨F, ds, r, sf, hd, ef, k⟩ := h
  unfold tupF at ef
  split at ef
  · cases ef
    obtain ⟨v, rfl, hv⟩ := da1 hd
    cases hv with
    | @lst a vs _ h1 d1 =>
      refine call_tuple_of pins s σ H _ us Q I rx ⟨a, vs, rfl, .inl ⟨sf.seq h1, fun p hp => ?_⟩⟩
      have gr : Grow F H (upd F p (.tup vs)) (upd H p (.tup vs)) := Grow.val sf hp
      exact k _ _ _ gr (.tup (.inl (.inl upd_same)) (dpAll_mono gr.ff _ _ d1))
  · cases ef
    obtain ⟨v, rfl, hv⟩ := da1 hd
    cases hv with
    | tup h1 d1 => exact call_tuple_of pins s σ H _ us Q I rx ⟨_, _, rfl, .inr ⟨seqT_same sf h1, k _ F H (Grow.refl sf) (.tup h1 d1)⟩⟩
  · cases ef
theorem call_lstD : CallR X (.type "list") (rFn (cxK X) lstF) := by
  intro pins s σ H xs us Q I rx h
  obtain ⟨F, ds, r, sf, hd, ef, k⟩ := h
  unfold lstF at ef
  split at ef
  · cases ef
    obtain ⟨v, rfl, hv⟩ := da1 hd
    cases hv with
    | lst h1 d1 => exact call_list_of pins s σ H _ us Q I rx ⟨_, _, rfl, .inl (sf.seq h1), fun p hp => k p _ _ (Grow.own sf hp) (own_new sf hp d1) hp⟩
  · cases ef
    obtain ⟨v, rfl, hv⟩ := da1 hd
    cases hv with
    | tup h1 d1 => exact call_list_of pins s σ H _ us Q I rx ⟨_, _, rfl, .inr (seqT_same sf h1), fun p hp => k p _ _ (Grow.own sf hp) (own_new sf hp d1) hp⟩
  · cases ef
theorem call_strD : CallR X (.type "str") (rPn (cxK X) strF) := by
  intro pins s σ H xs us Q I rx h
  obtain ⟨F, ds, r, sf, hd, ef, k⟩ := h
  unfold strF at ef
  split at ef
  · split at ef
    · rename_i hl
      cases ef
      obtain ⟨v, rfl, hv⟩ := da1 hd
      cases hv
      exact call_str_int pins s σ H _ us Q I rx ⟨_, rfl, hl, k _ F H (Grow.refl sf) (.str _)⟩
    · cases ef
  · cases ef
theorem call_ordD : CallR X (.builtin "ord") (rPn (cxK X) ordF) := by
  intro pins s σ H xs us Q I rx h
  obtain ⟨F, ds, r, sf, hd, ef, k⟩ := h
  unfold ordF at ef
  split at ef
  · split at ef
    · rename_i hl
      cases ef
      obtain ⟨v, rfl, hv⟩ := da1 hd
      cases hv
      exact call_ord pins s σ H _ us Q I rx ⟨_, rfl, hl, k _ F H (Grow.refl sf) (.int _)⟩
    · cases ef
  · cases ef
end
/-- the built-in class of a datum -/
def tyD : D → String
  | .none => "NoneType"
  | .bool _ => "bool"
  | .int _ => "int"
  | .str _ => "str"
  | .list _ => "list"
  | .tuple _ => "tuple"
  | .dict _ => "dict"
/-- its type is told by the datum -/
def tyOk : D → Bool
  | .dict ((.int _, _) :: _) => true
  | .dict ((.str _, _) :: _) => true
  | .dict _ => false
  | _ => true
def isiF (T : String) : List D → Option D
  | [d] => if tyOk d = true then (kitB (tyD d) T).bind fun b => some (.bool b) else none
  | _ => none
section
variable {X : Cx}
theorem dp_ty {K : Kx} {F H : Hp} {v : V} {d : D} (s : Same F H) (h : Rp K F v d) (ok : tyOk d = true) : TyX K H v (.type (tyD d)) := by
  cases h with
  | non => exact .base .non
  | bl b => exact .base (.bl b)
  | int i => exact .base (.int i)
  | str x => exact .base (.str x)
  | lst h1 _ =>
    rcases h1 with (h1 | ⟨o, h1⟩) | ⟨o, its, n, h1, h2, _⟩
    · exact .base (.lst (s _ _ h1))
    · exact .base (.frz (s _ _ h1))
    · exact .kList h1 h2
  | dic h1 _ => exact .base (.dK (s _ _ h1))
  | dicN _ hr =>
    cases hr with
    | nil => cases ok
    | @cons k ka x dk dv xs es hk h1 h2 h3 =>
      cases dk <;> first | (cases h1; done) | (simp [tyOk] at ok; done)
  | tup h1 _ =>
    rcases h1 with (h1 | ⟨o, h1⟩) | ⟨o, its, n, h1, h2, _⟩
    · exact .base (.tup (s _ _ h1))
    · exact .fTuple (s _ _ h1)
    · exact .kTuple h1 h2
theorem isi_cut {T : String} {vs : List V} {H : Hp} {Q : VK} (h : rPn (cxK X) (isiF T) vs H Q) : rIsi (cxK X) (vs ++ [.ty T]) H Q := by
  obtain ⟨F, ds, r, sf, hd, ef, k⟩ := h
  unfold isiF at ef
  split at ef
  · split at ef
    · rename_i ok
      obtain ⟨v, rfl, hv⟩ := da1 hd
      obtain ⟨b, e1, e2⟩ := bind_some ef
      cases e2
      exact ⟨v, .ty T, _, _, b, rfl, .ty T, dp_ty sf hv ok, kit_ty e1, k _ F H (Grow.refl sf) (.bl _)⟩
    · cases ef
  · cases ef
end
end Dn
set_option maxHeartbeats 2000000
/-! calls, statements, loops, comprehensions, defs -/
namespace Dn
open PySem PySem.Spec PyProof.Rows L2

section
variable {X : Cx} {e a b c : Expr} {es : List Expr} {pos p cpos apos : Pos} {x : Str}

/-! ### calls of built-ins -/
theorem app_q {r : List V → Hp → VK → Prop} {f : List D → Option D} {gs : Md (List D)} (hr : r = rPn (cxK X) f) {σ : L2.St} {H : Hp} {Q : VK} (q : tD (cxK X) (gApp f gs) σ H Q) : tDA (cxK X) gs σ H fun vs H1 => r vs H1 Q := by
  subst hr
  obtain ⟨F, ρ, d, ρ', s, eg, k⟩ := q
  obtain ⟨⟨ds, ρ1⟩, e1, eg1⟩ := bind_some eg
  obtain ⟨z, e3, eg2⟩ := bind_some eg1
  cases eg2
  exact ⟨F, ρ, ds, _, s, e1, fun vs F1 H1 p1 s1 r1 => ⟨F1, ds, _, s1.sub, r1, e3, fun w F3 H3 gr rw' => k w F3 H3 (p1.trans (gr.stp σ _)) (s1.grow gr) rw'⟩⟩
theorem appF_q {r : List V → Hp → VK → Prop} {f : List D → Option D} {gs : Md (List D)} (hr : r = rFn (cxK X) f) {σ : L2.St} {H : Hp} {Q : VK} (q : tF (cxK X) (gApp f gs) σ H Q) : tDA (cxK X) gs σ H fun vs H1 => r vs H1 Q := by
  subst hr
  obtain ⟨F, ρ, d, ρ', s, eg, k⟩ := q
  obtain ⟨⟨ds, ρ1⟩, e1, eg1⟩ := bind_some eg
  obtain ⟨z, e3, eg2⟩ := bind_some eg1
  cases eg2
  exact ⟨F, ρ, ds, _, s, e1, fun vs F1 H1 p1 s1 r1 => ⟨F1, ds, _, s1.sub, r1, e3, fun a F3 H3 gr o hn => k a F3 H3 (p1.trans (gr.stp σ _)) (s1.grow gr) o (not_owns s1 hn) (p1.none hn)⟩⟩
theorem de_callB {id : String} {f : List D → Option D} {gs : Md (List D)} (hc : CallR X (.builtin id) (rPn (cxK X) f)) (hg : Gl X x) (hm : X.mg x = none) (hv : bootBuiltins x = some (.builtin id)) (ha : DA X (e :: es) gs) (hn : x ≠ "__name__" := by decide) (hdb : (x == ("__debug__" : Str)) = false := by decide)
    (he : starEach (e :: es) X.env = (false, eval e X.env) :: starEach es X.env := by rfl) (hpl : (backTo pos (starEach es X.env)).any (·.1) = false := by rfl) : DE X (.Call (.Name x p) (e :: es) [] pos) (gApp f gs) :=
  pe_imp (pe_callB hc hg hm hv ha hn hdb he hpl) fun _ _ _ q => app_q rfl q
theorem de_callTy {T : String} {f : List D → Option D} {gs : Md (List D)} (hc : CallR X (.type T) (rPn (cxK X) f)) (hg : Gl X x) (hm : X.mg x = none) (hv : bootBuiltins x = some (.type T)) (ha : DA X (e :: es) gs) (hn : x ≠ "__name__" := by decide) (hdb : (x == ("__debug__" : Str)) = false := by decide)
    (he : starEach (e :: es) X.env = (false, eval e X.env) :: starEach es X.env := by rfl) (hpl : (backTo pos (starEach es X.env)).any (·.1) = false := by rfl) : DE X (.Call (.Name x p) (e :: es) [] pos) (gApp f gs) :=
  pe_imp (pe_callTy hc hg hm hv ha hn hdb he hpl) fun _ _ _ q => app_q rfl q
theorem df_callTy {T : String} {f : List D → Option D} {gs : Md (List D)} (hc : CallR X (.type T) (rFn (cxK X) f)) (hg : Gl X x) (hm : X.mg x = none) (hv : bootBuiltins x = some (.type T)) (ha : DA X (e :: es) gs) (hn : x ≠ "__name__" := by decide) (hdb : (x == ("__debug__" : Str)) = false := by decide)
    (he : starEach (e :: es) X.env = (false, eval e X.env) :: starEach es X.env := by rfl) (hpl : (backTo pos (starEach es X.env)).any (·.1) = false := by rfl) : DF X (.Call (.Name x p) (e :: es) [] pos) (gApp f gs) :=
  pe_imp (pe_callTy hc hg hm hv ha hn hdb he hpl) fun _ _ _ q => appF_q rfl q
theorem df_callB {id : String} {f : List D → Option D} {gs : Md (List D)} (hc : CallR X (.builtin id) (rFn (cxK X) f)) (hg : Gl X x) (hm : X.mg x = none) (hv : bootBuiltins x = some (.builtin id)) (ha : DA X (e :: es) gs) (hn : x ≠ "__name__" := by decide) (hdb : (x == ("__debug__" : Str)) = false := by decide)
    (he : starEach (e :: es) X.env = (false, eval e X.env) :: starEach es X.env := by rfl) (hpl : (backTo pos (starEach es X.env)).any (·.1) = false := by rfl) : DF X (.Call (.Name x p) (e :: es) [] pos) (gApp f gs) :=
  pe_imp (pe_callB hc hg hm hv ha hn hdb he hpl) fun _ _ _ q => appF_q rfl q
/-- isinstance(e, T) -/
theorem de_isi {T : String} {y : Str} {p2 : Pos} {g : Md D} (hm : X.mg "isinstance" = none) (hgl : Gl X "isinstance") (hgy : Gl X y) (hmy : X.mg y = none) (hv : bootBuiltins y = some (.type T)) (ha : DE X e g) (hny : y ≠ "__name__" := by decide) (hdy : (y == ("__debug__" : Str)) = false := by decide)
    (he : starEach (e :: [.Name y p2]) X.env = (false, eval e X.env) :: starEach [.Name y p2] X.env := by rfl) (he2 : starEach ([.Name y p2]) X.env = (false, eval (.Name y p2) X.env) :: starEach [] X.env := by rfl) (hpl : (backTo pos (starEach [.Name y p2] X.env)).any (·.1) = false := by rfl) : DE X (.Call (.Name "isinstance" p) [e, .Name y p2] [] pos) (gApp (isiF T) (gCons g gNil)) :=
  pe_imp (pe_callB call_isi hgl hm (by decide +kernel) (pa_cons ha (pa_cons (pe_bltn (v := .ty T) hgy hmy hv rfl hny hdy) pa_nil he2) he) (by decide) (by decide) he hpl) fun σ H Q q => by
    obtain ⟨F, ρ, d, ρ', s, eg, k⟩ := q
    obtain ⟨⟨ds, ρ1⟩, e1, eg1⟩ := bind_some eg
    obtain ⟨z, e3, eg2⟩ := bind_some eg1
    cases eg2
    obtain ⟨⟨d1, ρ2⟩, e4, eg4⟩ := bind_some e1
    cases eg4
    exact ⟨F, ρ, d1, ρ2, s, e4, fun v F1 H1 p1 s1 r1 => isi_cut (vs := [v]) ⟨F1, [d1], _, s1.sub, .cons r1 .nil, e3, fun w F3 H3 gr rw' => k w F3 H3 (p1.trans (gr.stp σ ρ2)) (s1.grow gr) rw'⟩⟩

/-! ### defs: their promises -/
def spV (K : Kx) (n : Nat) (f : List D → Option D) : Sp := fun vs H Q _ => vs.length = n ∧ rPn K f vs H Q
/-- .. whose first argument is a list that is changed -/
def spIO (K : Kx) (n : Nat) (f : D → List D → Option (D × D)) : Sp := fun vs H Q _ => vs.length = n ∧ ∃ (F : Hp) (a : Addr) (ws : List V) (d : D) (ds : List D) (r d' : D), vs = .ref a :: ws ∧ Same F H ∧ OwnAt K F H a d ∧ RpAll K F ws ds ∧ f d ds = some (r, d') ∧
  ∀ v F' H', Same F F' → Same F' H' → (∀ b o, H b = some o → b ≠ a → H' b = some o ∧ F' b = F b) → OwnAt K F' H' a d' → Rp K F' v r → Q v H'
theorem de_call {k n : Nat} {f : Addr} {fd : FuncData} {ps : List Str} {g : List D → Option D} {gs : Md (List D)} (G : FnOk X.prog X.w X.K X.mg X.base CX0 k f fd ps (spV (cxK X) n g)) (hr : Room k X.A) (hg : Gl X x) (hm : X.mg x = some (.ref f)) (hk : PySem.W.keepIn X.K (.ref f) = true) (hb : Binds X.K fd ps []) (hn : (e :: es).length = n) (ha : DA X (e :: es) gs) (hlen : ∀ ρ ds ρ', gs ρ = some (ds, ρ') → ds.length = n)
    (hdb : (x == ("__debug__" : Str)) = false := by decide) (he : starEach (e :: es) X.env = (false, eval e X.env) :: starEach es X.env := by rfl) (hpl : (backTo pos (starEach es X.env)).any (·.1) = false := by rfl) : DE X (.Call (.Name x p) (e :: es) [] pos) (gApp g gs) :=
  pe_imp (pe_call G hr hg hm hk hb .nil pass0 ha hdb he hpl) fun σ H Q q => by
    obtain ⟨F, ρ, d, ρ', s, eg, k⟩ := q
    obtain ⟨⟨ds, ρ1⟩, e1, eg1⟩ := bind_some eg
    obtain ⟨z, e3, eg2⟩ := bind_some eg1
    cases eg2
    exact ⟨F, ρ, ds, _, s, e1, fun vs F1 H1 p1 s1 r1 => ⟨by rw [List.append_nil, da_len r1]; exact hlen _ _ _ e1, F1, ds, _, s1.sub, by rw [List.append_nil]; exact r1, e3, fun w F3 H3 gr rw' => k w F3 H3 (p1.trans (gr.stp σ _)) (s1.grow gr) rw'⟩⟩
/-- .. that hands back a new list of the caller's own -/
def spF (K : Kx) (n : Nat) (f : List D → Option D) : Sp := fun vs H Q _ => vs.length = n ∧ rFn K f vs H Q
theorem df_call {k n : Nat} {f : Addr} {fd : FuncData} {ps : List Str} {g : List D → Option D} {gs : Md (List D)} (G : FnOk X.prog X.w X.K X.mg X.base CX0 k f fd ps (spF (cxK X) n g)) (hr : Room k X.A) (hg : Gl X x) (hm : X.mg x = some (.ref f)) (hk : PySem.W.keepIn X.K (.ref f) = true) (hb : Binds X.K fd ps []) (hn : (e :: es).length = n) (ha : DA X (e :: es) gs) (hlen : ∀ ρ ds ρ', gs ρ = some (ds, ρ') → ds.length = n)
    (hdb : (x == ("__debug__" : Str)) = false := by decide) (he : starEach (e :: es) X.env = (false, eval e X.env) :: starEach es X.env := by rfl) (hpl : (backTo pos (starEach es X.env)).any (·.1) = false := by rfl) : DF X (.Call (.Name x p) (e :: es) [] pos) (gApp g gs) :=
  pe_imp (pe_call G hr hg hm hk hb .nil pass0 ha hdb he hpl) fun σ H Q q => by
    obtain ⟨F, ρ, d, ρ', s, eg, k⟩ := q
    obtain ⟨⟨ds, ρ1⟩, e1, eg1⟩ := bind_some eg
    obtain ⟨z, e3, eg2⟩ := bind_some eg1
    cases eg2
    exact ⟨F, ρ, ds, _, s, e1, fun vs F1 H1 p1 s1 r1 => ⟨by rw [List.append_nil, da_len r1]; exact hlen _ _ _ e1, F1, ds, _, s1.sub, by rw [List.append_nil]; exact r1, e3, fun a F3 H3 gr o hn => k a F3 H3 (p1.trans (gr.stp σ _)) (s1.grow gr) o (not_owns s1 hn) (p1.none hn)⟩⟩
theorem len_nil : ∀ ρ ds ρ', gNil ρ = some (ds, ρ') → ds.length = 0 := fun ρ ds ρ' h => by
  cases h
  rfl
theorem len_cons {g : Md D} {gs : Md (List D)} {n : Nat} (h : ∀ ρ ds ρ', gs ρ = some (ds, ρ') → ds.length = n) : ∀ ρ ds ρ', gCons g gs ρ = some (ds, ρ') → ds.length = n + 1 := fun ρ ds ρ' e => by
  obtain ⟨⟨x, ρ1⟩, e1, eg1⟩ := bind_some e
  obtain ⟨⟨y, ρ2⟩, e2, eg2⟩ := bind_some eg1
  cases eg2
  exact congrArg (· + 1) (h _ _ _ e2)
def setC (i : Nat) (c : Cell) (ρ : Env) : Option Env := match ρ[i]? with
  | some (some (.own true _)) => none
  | some _ => some (ρ.set i (some c))
  | none => none
def gCallIO (i : Nat) (f : D → List D → Option (D × D)) (gs : Md (List D)) : Md D := fun ρ => match ρ[i]? with
  | some (some (.own _ _)) => (gs ρ).bind fun p => match p.2[i]? with
    | some (some (.own b d)) => (f d p.1).bind fun r => some (r.1, p.2.set i (some (.own b r.2)))
    | _ => none
  | _ => none
theorem st_own_set {K : Kx} {F H F' H' : Hp} {σ : L2.St} {ρ : Env} {i : Nat} {b : Bool} {d d' : D} {a : Addr} (s : St K F H σ ρ) (e : ρ[i]? = some (some (.own b d))) (ea : σ[i]? = some (some (.ref a))) (sf : Same F F') (sh : Same F' H')
    (kp : ∀ c o, H c = some o → c ≠ a → H' c = some o ∧ F' c = F c) (o : OwnAt K F' H' a d') : St K F' H' σ (ρ.set i (some (.own b d'))) ∧ Stp F σ ρ H F' σ (ρ.set i (some (.own b d'))) H' := by
  have sub : ∀ c, Owns σ (ρ.set i (some (.own b d'))) c → Owns σ ρ c := fun c h => by
    obtain ⟨j, f, dj, h1, h2⟩ := h
    by_cases z : j = i
    · subst z
      exact ⟨j, b, d, e, h2⟩
    · rw [get_set_ne z] at h1
      exact ⟨j, f, dj, h1, h2⟩
  refine ⟨⟨sh, by rw [List.length_set]; exact s.len, fun j c hj => ?_, fun j l f g dj dl x h1 h2 h3 h4 => ?_⟩, ⟨sf, fun c u hc nc => kp c u hc fun z => nc (by subst z; exact ⟨i, b, d, e, ea⟩), fun c h => .inl (sub c h), fun j dj hj => ⟨rfl, ?_⟩, fun c u hc => ?_⟩⟩
  · by_cases z : j = i
    · subst z
      rw [get_set_self e] at hj
      cases hj
      exact ⟨a, ea, o⟩
    · rw [get_set_ne z] at hj
      have q := s.cell j c hj
      cases c with
      | val dj =>
        obtain ⟨v, e2, r2⟩ := q
        exact ⟨v, e2, dp_mono sf _ _ r2⟩
      | own f dj =>
        obtain ⟨c, e2, ow⟩ := q
        have ne : c ≠ a := fun y => z (by subst y; exact s.dist j i f b dj d _ hj e e2 ea)
        obtain ⟨u, e4⟩ := ow.there
        obtain ⟨g1, g2⟩ := kp c _ e4 ne
        exact ⟨c, e2, g2.trans ow.1, ow.2.mono sf fun o e5 => (kp c o e5 ne).1⟩
  · have h1' : ∃ f dj, ρ[j]? = some (some (.own f dj)) := by
      by_cases z : j = i
      · subst z; exact ⟨b, d, e⟩
      · rw [get_set_ne z] at h1; exact ⟨f, dj, h1⟩
    have h2' : ∃ f dj, ρ[l]? = some (some (.own f dj)) := by
      by_cases z : l = i
      · subst z; exact ⟨b, d, e⟩
      · rw [get_set_ne z] at h2; exact ⟨g, dl, h2⟩
    obtain ⟨f1, d1, g1⟩ := h1'
    obtain ⟨f2, d2, g2⟩ := h2'
    exact s.dist j l f1 f2 d1 d2 x g1 g2 h3 h4
  · by_cases z : j = i
    · subst z
      rw [e] at hj
      cases hj
      exact ⟨d', get_set_self e⟩
    · rw [get_set_ne z]
      exact ⟨dj, hj⟩
  · by_cases z : c = a
    · subst z
      exact o.there
    · exact ⟨u, (kp c u hc z).1⟩
theorem de_callIO (i : Nat) {k n : Nat} {y : Str} {f : Addr} {fd : FuncData} {ps : List Str} {py : Pos} {g : D → List D → Option (D × D)} {gs : Md (List D)} (G : FnOk X.prog X.w X.K X.mg X.base CX0 k f fd ps (spIO (cxK X) (n + 1) g)) (hr : Room k X.A) (hg : Gl X x) (hm : X.mg x = some (.ref f)) (hk : PySem.W.keepIn X.K (.ref f) = true) (hb : Binds X.K fd ps [])
    (hN : X.N[i]? = some y) (hv : Vis X.env.scope y) (ha : DA X es gs) (hlen : ∀ ρ ds ρ', gs ρ = some (ds, ρ') → ds.length = n)
    (hdb : (x == ("__debug__" : Str)) = false := by decide) (hdy : (y == ("__debug__" : Str)) = false := by decide) (hcd : (y == ("__classdict__" : Str)) = false := by decide) (he : starEach (.Name y py :: es) X.env = (false, eval (.Name y py) X.env) :: starEach es X.env := by rfl) (hpl : (backTo pos (starEach es X.env)).any (·.1) = false := by rfl) : DE X (.Call (.Name x p) (.Name y py :: es) [] pos) (gCallIO i g gs) :=
  pe_imp (pe_call G hr hg hm hk hb .nil pass0 (pa_cons (pe_var hN hv hdy hcd) ha he) hdb he hpl) fun σ H Q q => by
    obtain ⟨F, ρ, d, ρ', s, eg, k⟩ := q
    unfold gCallIO at eg
    split at eg
    · rename_i b0 d0 h0
      obtain ⟨a, ea, _, _⟩ := st_owned s h0
      obtain ⟨⟨ds, ρ1⟩, e1, eg1⟩ := bind_some eg
      simp only at eg1
      split at eg1
      · rename_i b1 d1 h1
        obtain ⟨⟨r, d'⟩, e2, eg2⟩ := bind_some eg1
        cases eg2
        refine ⟨.ref a, ea, F, ρ, ds, ρ1, s, e1, fun vs F1 H1 p1 s1 r1 => ⟨?_, F1, a, vs, d1, ds, r, d', by simp, s1.sub, ?_, r1, e2, fun v F2 H2 sf sh kp o rv => ?_⟩⟩
        · simp [da_len r1, hlen _ _ _ e1]
        · obtain ⟨a1, ea1, o1, _⟩ := st_owned s1 h1
          rw [ea] at ea1
          cases ea1
          exact o1
        · obtain ⟨s2, p2⟩ := st_own_set s1 h1 ea sf sh kp o
          exact k v F2 H2 (p1.trans p2) s2 rv
      · cases eg1
    · cases eg

/-! ### statements -/
theorem fl_base {K : Kx} {E : Ends} {H H1 F' : Hp} {σ' : L2.St} {H' : Hp} {f : Fl} (h : FlOk K E H F' σ' H' f) (p : ∀ a, H1 a = none → H a = none) : FlOk K E H1 F' σ' H' f := by
  cases f with
  | rof d => exact fun a o n => h a o (p a n)
  | nx => exact h
  | ret d => exact h
  | brk => exact h
  | cnt => exact h
def sNext : Sd := fun ρ => some (.nx, ρ)
def sSeq (s t : Sd) : Sd := fun ρ => (s ρ).bind fun p => match p.1 with
  | .nx => t p.2
  | f => some (f, p.2)
def sIf (g : Md Bool) (s t : Sd) : Sd := fun ρ => (g ρ).bind fun p => if p.1 = true then s p.2 else t p.2
def sRet (g : Md D) : Sd := fun ρ => (g ρ).bind fun p => some (.ret p.1, p.2)
def sDrop (g : Md D) : Sd := fun ρ => (g ρ).bind fun p => some (.nx, p.2)
def sSet (i : Nat) (g : Md D) : Sd := fun ρ => (g ρ).bind fun p => (setC i (.val p.1) p.2).bind fun r => some (.nx, r)
def sOwn (i : Nat) (g : Md D) : Sd := fun ρ => (g ρ).bind fun p => (setC i (.own false p.1) p.2).bind fun r => some (.nx, r)
def sBrk : Sd := fun ρ => some (.brk, ρ)
def sCnt : Sd := fun ρ => some (.cnt, ρ)
variable {st : Stmt} {sts : List Stmt}
theorem dss_nil : DSs X [] sNext := pss_imp pss_nil fun E σ H q => by
  obtain ⟨F, ρ, f, ρ', s, eg, k⟩ := q
  cases eg
  exact k σ F H Stp.refl s
theorem dss_cons {g h : Sd} (h1 : DS X st g) (h2 : DSs X sts h) : DSs X (st :: sts) (sSeq g h) := pss_imp (pss_cons h1 h2) fun E σ H q => by
  obtain ⟨F, ρ, f, ρ', s, eg, k⟩ := q
  obtain ⟨⟨f1, ρ1⟩, e1, eg1⟩ := bind_some eg
  refine ⟨F, ρ, f1, ρ1, s, e1, fun σ1 F1 H1 p1 s1 => ?_⟩
  cases f1 with
  | nx => exact ⟨F1, ρ1, f, ρ', s1, eg1, fun σ2 F2 H2 p2 s2 => fl_base (k σ2 F2 H2 (p1.trans p2) s2) fun _ => p1.none⟩
  | ret d =>
    cases eg1
    exact k σ1 F1 H1 p1 s1
  | rof d =>
    cases eg1
    exact k σ1 F1 H1 p1 s1
  | brk =>
    cases eg1
    exact k σ1 F1 H1 p1 s1
  | cnt =>
    cases eg1
    exact k σ1 F1 H1 p1 s1
theorem dss_one {g : Sd} (h1 : DS X st g) : DSs X [st] g := pss_one h1
theorem ds_pass : DS X (.Pass pos) sNext := ps_imp ps_pass fun E σ H q => by
  obtain ⟨F, ρ, f, ρ', s, eg, k⟩ := q
  cases eg
  exact k σ F H Stp.refl s
theorem ds_break : DS X (.Break pos) sBrk := ps_imp ps_break fun E σ H q => by
  obtain ⟨F, ρ, f, ρ', s, eg, k⟩ := q
  cases eg
  exact k σ F H Stp.refl s
theorem ds_cont : DS X (.Continue pos) sCnt := ps_imp ps_continue fun E σ H q => by
  obtain ⟨F, ρ, f, ρ', s, eg, k⟩ := q
  cases eg
  exact k σ F H Stp.refl s
theorem ds_if {g : Md Bool} {s1 s2 : Sd} {as bs : List Stmt} (hc : DT X c g) (ha : DSs X as s1) (hb : DSs X bs s2) : DS X (.If c as bs pos) (sIf g s1 s2) := ps_imp (ps_if hc ha hb) fun E σ H q => by
  obtain ⟨F, ρ, f, ρ', s, eg, k⟩ := q
  obtain ⟨⟨b, ρ1⟩, e1, eg1⟩ := bind_some eg
  refine ⟨F, ρ, b, ρ1, s, e1, fun F1 H1 p1 s1 => ?_⟩
  cases b with
  | true => exact ⟨F1, ρ1, f, ρ', s1, eg1, fun σ2 F2 H2 p2 s2 => fl_base (k σ2 F2 H2 (p1.trans p2) s2) fun _ => p1.none⟩
  | false => exact ⟨F1, ρ1, f, ρ', s1, eg1, fun σ2 F2 H2 p2 s2 => fl_base (k σ2 F2 H2 (p1.trans p2) s2) fun _ => p1.none⟩
theorem ds_ret {g : Md D} (h : DE X e g) : DS X (.Return (some e) pos) (sRet g) := ps_imp (ps_ret h) fun E σ H q => by
  obtain ⟨F, ρ, f, ρ', s, eg, k⟩ := q
  obtain ⟨⟨d, ρ1⟩, e1, eg1⟩ := bind_some eg
  cases eg1
  exact ⟨F, ρ, d, _, s, e1, fun v F1 H1 p1 s1 r1 => k σ F1 H1 p1 s1 v r1⟩
def sRof (g : Md D) : Sd := fun ρ => (g ρ).bind fun p => some (.rof p.1, p.2)
theorem ds_rof {g : Md D} (h : DF X e g) : DS X (.Return (some e) pos) (sRof g) := ps_imp (ps_ret h) fun E σ H q => by
  obtain ⟨F, ρ, f, ρ', s, eg, k⟩ := q
  obtain ⟨⟨d, ρ1⟩, e1, eg1⟩ := bind_some eg
  cases eg1
  exact ⟨F, ρ, d, _, s, e1, fun a F1 H1 p1 s1 o no hn => k σ F1 H1 p1 s1 a o hn⟩
theorem ds_expr {g : Md D} (h : DE X e g) (hs : swapsWith e none pos.line X.env = pure false := by rfl) : DS X (.Expr e pos) (sDrop g) := ps_imp (ps_expr h hs) fun E σ H q => by
  obtain ⟨F, ρ, f, ρ', s, eg, k⟩ := q
  obtain ⟨⟨d, ρ1⟩, e1, eg1⟩ := bind_some eg
  cases eg1
  exact ⟨F, ρ, d, _, s, e1, fun v F1 H1 p1 s1 r1 => k σ F1 H1 p1 s1⟩
theorem setC_some {i : Nat} {c : Cell} {ρ ρ' : Env} (h : setC i c ρ = some ρ') : ρ' = ρ.set i (some c) ∧ (∀ d, ρ[i]? ≠ some (some (.own true d))) ∧ ∃ o, ρ[i]? = some o := by
  unfold setC at h
  split at h
  · cases h
  · rename_i o q n
    refine ⟨(Option.some.inj h).symm, fun d z => ?_, _, n⟩
    rw [n] at z
    cases z
    exact q d rfl
  · cases h
theorem st_set {K : Kx} {F H : Hp} {σ : L2.St} {ρ ρ' : Env} {i : Nat} {c : Cell} {v : V} (s : St K F H σ ρ) (h : setC i c ρ = some ρ') (hc : CellOk K F H (some (some v)) c) (hn : ∀ f d a, c = .own f d → v = .ref a → f = false ∧ ¬ Owns σ ρ a) : St K F H (σ.set i (some v)) ρ' := by
  obtain ⟨rfl, nf, o, ho⟩ := setC_some h
  have hi : i < σ.length := by
    rw [← s.len]
    exact (List.getElem?_eq_some_iff.mp ho).1
  have hσ : (σ.set i (some v))[i]? = some (some v) := List.getElem?_set_self hi
  refine ⟨s.sub, by rw [List.length_set, List.length_set]; exact s.len, fun j cj hj => ?_, fun j l f g dj dl b h1 h2 h3 h4 => ?_⟩
  · by_cases z : j = i
    · subst z
      rw [get_set_self ho] at hj
      cases hj
      rw [hσ]
      exact hc
    · rw [get_set_ne z] at hj ⊢
      exact s.cell j cj hj
  · by_cases z1 : j = i
    · subst z1
      rw [get_set_self ho] at h1
      rw [hσ] at h3
      by_cases z2 : l = j
      · exact z2.symm
      · rw [get_set_ne z2] at h2 h4
        cases h1
        cases h3
        exact absurd ⟨l, g, dl, h2, h4⟩ (hn f dj b rfl rfl).2
    · rw [get_set_ne z1] at h1 h3
      by_cases z2 : l = i
      · subst z2
        rw [get_set_self ho] at h2
        rw [hσ] at h4
        cases h2
        cases h4
        exact absurd ⟨j, f, dj, h1, h3⟩ (hn g dl b rfl rfl).2
      · rw [get_set_ne z2] at h2 h4
        exact s.dist j l f g dj dl b h1 h2 h3 h4
theorem stp_set {F H : Hp} {σ : L2.St} {ρ ρ' : Env} {i : Nat} {c : Cell} {v : V} {H0 : Hp} {F0 : Hp} {σ0 : L2.St} {ρ0 : Env} (p : Stp F0 σ0 ρ0 H0 F σ ρ H) (h : setC i c ρ = some ρ') (hn : ∀ f d a, c = .own f d → v = .ref a → H0 a = none) : Stp F0 σ0 ρ0 H0 F (σ.set i (some v)) ρ' H := by
  obtain ⟨rfl, nf, o, ho⟩ := setC_some h
  refine ⟨p.ff, p.keep, fun b hb => ?_, fun j d hj => ?_, p.dom⟩
  · obtain ⟨j, f, dj, h1, h2⟩ := hb
    by_cases z : j = i
    · subst z
      rw [get_set_self ho] at h1
      cases h1
      have h3 : v = .ref b := by
        by_cases hl : j < σ.length
        · rw [List.getElem?_set_self hl] at h2
          exact Option.some.inj (Option.some.inj h2)
        · rw [List.getElem?_eq_none (by simpa using hl)] at h2
          cases h2
      exact .inr (hn f dj b rfl h3)
    · rw [get_set_ne z] at h1 h2
      exact p.fresh b ⟨j, f, dj, h1, h2⟩
  · obtain ⟨e1, d', e2⟩ := p.fix j d hj
    have z : j ≠ i := fun z => by
      subst z
      exact nf d' e2
    rw [get_set_ne z, get_set_ne z]
    exact ⟨e1, d', e2⟩
theorem ds_set {i : Nat} {pos' : Pos} {g : Md D} (hN : X.N.Nodup) (hi : X.N[i]? = some x) (hx : Loc X.env.scope x) (he : DE X e g) (hs : swapsWith e (some (.Name x pos')) pos.line X.env = pure false := by rfl) (hf : X.fn x = true ∨ X.env.scope.names.lookup x = some .local := by first | exact .inl rfl | exact .inr rfl | assumption) : DS X (.Assign [.Name x pos'] e pos) (sSet i g) :=
  ps_imp (ps_set hN hi hx he hs hf) fun E σ H q => by
    obtain ⟨F, ρ, f, ρ', s, eg, k⟩ := q
    obtain ⟨⟨d, ρ1⟩, e1, eg1⟩ := bind_some eg
    obtain ⟨r, e2, eg2⟩ := bind_some eg1
    cases eg2
    exact ⟨F, ρ, d, ρ1, s, e1, fun v F1 H1 p1 s1 r1 => k _ F1 H1 (stp_set p1 e2 fun _ _ _ z => nomatch z) (st_set s1 e2 ⟨v, rfl, r1⟩ fun _ _ _ z => nomatch z)⟩
theorem ds_own {i : Nat} {pos' : Pos} {g : Md D} (hN : X.N.Nodup) (hi : X.N[i]? = some x) (hx : Loc X.env.scope x) (he : DF X e g) (hs : swapsWith e (some (.Name x pos')) pos.line X.env = pure false := by rfl) (hf : X.fn x = true ∨ X.env.scope.names.lookup x = some .local := by first | exact .inl rfl | exact .inr rfl | assumption) : DS X (.Assign [.Name x pos'] e pos) (sOwn i g) :=
  ps_imp (ps_set hN hi hx he hs hf) fun E σ H q => by
    obtain ⟨F, ρ, f, ρ', s, eg, k⟩ := q
    obtain ⟨⟨d, ρ1⟩, e1, eg1⟩ := bind_some eg
    obtain ⟨r, e2, eg2⟩ := bind_some eg1
    cases eg2
    refine ⟨F, ρ, d, ρ1, s, e1, fun a F1 H1 p1 s1 o no hn => k _ F1 H1 (stp_set p1 e2 fun _ _ b _ z => ?_) (st_set s1 e2 ⟨a, rfl, o⟩ fun f _ b z1 z => ?_)⟩
    · cases z
      exact hn
    · cases z
      cases z1
      exact ⟨rfl, no⟩
/-! ### lists of one's own that are changed -/
def sApp (i : Nat) (g : Md D) : Sd := fun ρ => match ρ[i]? with
  | some (some (.own _ (.list _))) => (g ρ).bind fun p => match p.2[i]? with
    | some (some (.own b (.list ds))) => if ds.length < 16777216 then some (.nx, p.2.set i (some (.own b (.list (ds ++ [p.1]))))) else none
    | _ => none
  | _ => none
theorem own_lst {K : Kx} {F H : Hp} {a : Addr} {ds : List D} (h : OwnAt K F H a (.list ds)) : F a = none ∧ ∃ xs, H a = some (.lst xs) ∧ RpAll K F xs ds := by
  obtain ⟨f, h⟩ := h
  rcases h with ⟨xs, ds', e, hh, r⟩ | ⟨xs, es, e, _⟩
  · cases e
    exact ⟨f, xs, hh, r⟩
  · cases e
theorem own_write {K : Kx} {F H : Hp} {a : Addr} {xs : List V} {ds : List D} {o : HO} (s : Same F H) (hF : F a = none) (hH : H a = some o) (r : RpAll K F xs ds) : OwnAt K F (upd H a (.lst xs)) a (.list ds) ∧ Same F (upd H a (.lst xs)) ∧ ∀ c u, H c = some u → c ≠ a → upd H a (.lst xs) c = some u ∧ F c = F c :=
  ⟨⟨hF, .inl ⟨xs, ds, rfl, upd_same, r⟩⟩, fun c u hc => by rw [upd_ne (ne_of_none hc hF)]; exact s c u hc, fun c u hc n => ⟨by rw [upd_ne n]; exact hc, rfl⟩⟩
theorem ds_app (i : Nat) {ce : Expr} {g : Md D} (he : PE X ce (tBM (cxK X) "list" rAppend (tVar i) (tCons (tD (cxK X) g) tNil))) (hs : swapsWith ce none pos.line X.env = pure false := by rfl) : DS X (.Expr ce pos) (sApp i g) :=
  ps_imp (ps_expr he hs) fun E σ H q => by
    obtain ⟨F, ρ, f, ρ', s, eg, k⟩ := q
    unfold sApp at eg
    split at eg
    · rename_i b0 d0 h0
      obtain ⟨a, ea, o0, _⟩ := st_owned s h0
      obtain ⟨_, xs0, hx0, _⟩ := own_lst o0
      obtain ⟨⟨d, ρ1⟩, e1, eg1⟩ := bind_some eg
      simp only at eg1
      split at eg1
      · rename_i b1 ds h1
        split at eg1
        · rename_i hl
          cases eg1
          refine ⟨.ref a, ea, .inl ⟨rfl, xs0, SqL.of hx0⟩, F, ρ, d, ρ1, s, e1, fun v F1 H1 p1 s1 r1 => ?_⟩
          obtain ⟨a1, ea1, o1, _⟩ := st_owned s1 h1
          rw [ea] at ea1
          cases ea1
          obtain ⟨f1, xs, hx, rx⟩ := own_lst o1
          refine ⟨a, xs, v, rfl, rfl, hx, by rw [line_eq, da_len rx]; exact hl, ?_⟩
          obtain ⟨o2, sh, kp⟩ := own_write s1.sub f1 hx (da_app rx (.cons r1 .nil))
          obtain ⟨s2, p2⟩ := st_own_set s1 h1 ea (Same.refl _) sh kp o2
          exact k σ F1 _ (p1.trans p2) s2
        · cases eg1
      · cases eg1
    · cases eg
def ixS (n : Nat) (i : Int) : Option Nat := if 0 ≤ i then (if i < n then some i.toNat else none) else if -(n : Int) ≤ i then some (i + n).toNat else none
def sSetIx (i : Nat) (gv gi : Md D) : Sd := fun ρ => (gv ρ).bind fun p => match p.2[i]? with
  | some (some (.own _ _)) => (gi p.2).bind fun q => (iOf q.1).bind fun z => match q.2[i]? with
    | some (some (.own b (.list ds))) => (ixS ds.length z).bind fun j => some (.nx, q.2.set i (some (.own b (.list (ds.set j p.1)))))
    | _ => none
  | _ => none
theorem ds_setIx (i : Nat) {y : Str} {py tpos : Pos} {gv gi : Md D} (hN : X.N[i]? = some y) (hv : Vis X.env.scope y) (he : DE X e gv) (hi : DE X a gi) (hdy : (y == ("__debug__" : Str)) = false := by decide) (hcd : (y == ("__classdict__" : Str)) = false := by decide)
    (ha : ∀ v, assign (.Subscript (.Name y py) a tpos) X.env v = (do let ov ← holding [v] (eval (.Name y py) X.env); let iv ← holding [v, ov] (eval a X.env); standAt tpos; holding [v, ov, iv] (setItem ov iv v); release [v, ov, iv] []) := by intro _; rfl)
    (hs : swapsWithSole [.Subscript (.Name y py) a tpos] e pos.line X.env = pure false := by rfl) (hw : swappedStores [.Subscript (.Name y py) a tpos] e X.env = pure none := by rfl) : DS X (.Assign [.Subscript (.Name y py) a tpos] e pos) (sSetIx i gv gi) :=
  ps_imp (ps_asg he (pg_sub (pe_var hN hv hdy hcd) hi set_list ha) hs hw) fun E σ H q => by
    obtain ⟨F, ρ, f, ρ', s, eg, k⟩ := q
    obtain ⟨⟨d, ρ1⟩, e1, eg1⟩ := bind_some eg
    simp only at eg1
    split at eg1
    · rename_i b0 d0 h0
      obtain ⟨⟨di, ρ2⟩, e2, eg2⟩ := bind_some eg1
      obtain ⟨z, e3, eg3⟩ := bind_some eg2
      simp only at eg3
      split at eg3
      · rename_i b1 ds h1
        obtain ⟨j, e4, eg4⟩ := bind_some eg3
        cases eg4
        have e5 := iOf_some e3
        simp only at e5
        subst e5
        refine ⟨F, ρ, d, ρ1, s, e1, fun v F1 H1 p1 s1 r1 => ?_⟩
        obtain ⟨a0, ea, o0, _⟩ := st_owned s1 h0
        refine ⟨.ref a0, ea, F1, ρ1, _, ρ2, s1, e2, fun u F2 H2 p2 s2 r2 => ?_⟩
        cases r2
        obtain ⟨a1, ea1, o1, _⟩ := st_owned s2 h1
        rw [ea] at ea1
        cases ea1
        obtain ⟨f1, xs, hx, rx⟩ := own_lst o1
        refine ⟨a0, xs, z, j, rfl, rfl, hx, by rw [da_len rx]; exact e4, ?_⟩
        obtain ⟨o2, sh, kp⟩ := own_write s2.sub f1 hx (da_set (dp_mono p2.ff _ _ r1) j rx)
        obtain ⟨s3, p3⟩ := st_own_set s2 h1 ea (Same.refl _) sh kp o2
        exact k σ F2 _ (p1.trans (p2.trans p3)) s3
      · cases eg3
    · cases eg1
end
end Dn
set_option maxHeartbeats 2000000
/-! targets, loops, comprehensions, defs -/
namespace Dn
open PySem PySem.Spec PyProof.Rows L2

section
variable {X : Cx} {e a b c tg iter : Expr} {es : List Expr} {pos p : Pos} {x : Str}

/-! ### targets -/
def gTN (i : Nat) : D → Env → Option Env := fun d ρ => setC i (.val d) ρ
def tDGs (K : Kx) (is : List Nat) (g : List D → Env → Option Env) : TGs := fun vs σ H Q => ∃ (F : Hp) (ρ : Env) (ds : List D) (ρ' : Env), St K F H σ ρ ∧ RpAll K F vs ds ∧ g ds ρ = some ρ' ∧
  ∀ σ' F' H', Stp F σ ρ H F' σ' ρ' H' → St K F' H' σ' ρ' → (σ'.length = σ.length ∧ ∀ j, j ∉ is → σ'[j]? = σ[j]?) → Q σ' H'
abbrev DGs (X : Cx) (es : List Expr) (is : List Nat) (g : List D → Env → Option Env) : Prop := PGs X es (tDGs (cxK X) is g)
theorem pgs_imp {X : Cx} {e : List Expr} {t t' : TGs} (h : PGs X e t) (i : ∀ v σ H Q, t' v σ H Q → t v σ H Q) : PGs X e t' := ⟨fun pins s σ H v u Q I r q => h.run pins s σ H v u Q I r (i v σ H Q q)⟩
theorem dg_name {i : Nat} (hN : X.N.Nodup) (hi : X.N[i]? = some x) (hx : Loc X.env.scope x) (hf : X.fn x = true ∨ X.env.scope.names.lookup x = some .local := by first | exact .inl rfl | exact .inr rfl | assumption) : DG X (.Name x pos) [i] (gTN i) :=
  pg_imp (pg_name hN hi hx hf) fun v σ H Q q => by
    obtain ⟨F, ρ, d, ρ', s, hd, eg, k⟩ := q
    exact k _ F H (stp_set Stp.refl eg fun _ _ _ z => nomatch z) (st_set s eg ⟨v, rfl, hd⟩ fun _ _ _ z => nomatch z) ⟨List.length_set, fun j hj => get_set_ne (by simpa using hj)⟩
def gTNil : List D → Env → Option Env
  | [], ρ => some ρ
  | _ :: _, _ => none
def gTCons (g : D → Env → Option Env) (gs : List D → Env → Option Env) : List D → Env → Option Env
  | d :: ds, ρ => (g d ρ).bind fun ρ1 => gs ds ρ1
  | [], _ => none
def gTTup (n : Nat) (gs : List D → Env → Option Env) : D → Env → Option Env
  | .tuple ds, ρ => if ds.length = n then gs ds ρ else none
  | _, _ => none
theorem dgs_nil : DGs X [] [] gTNil := pgs_imp pgs_nil fun vs σ H Q q => by
  obtain ⟨F, ρ, ds, ρ', s, hd, eg, k⟩ := q
  cases hd with
  | nil =>
    cases eg
    exact ⟨rfl, k σ F H Stp.refl s ⟨rfl, fun _ _ => rfl⟩⟩
  | cons _ _ => cases eg
theorem dgs_cons {is js : List Nat} {g : D → Env → Option Env} {gs : List D → Env → Option Env} (h1 : DG X e is g) (h2 : DGs X es js gs) (hs : (assignEach (e :: es) X.env).map (·.2) = assign e X.env :: (assignEach es X.env).map (·.2) := by rfl) : DGs X (e :: es) (is ++ js) (gTCons g gs) :=
  pgs_imp (pgs_cons h1 h2 hs) fun vs σ H Q q => by
    obtain ⟨F, ρ, ds, ρ', s, hd, eg, k⟩ := q
    cases hd with
    | nil => cases eg
    | cons r rs =>
      obtain ⟨ρ1, e1, eg1⟩ := bind_some eg
      exact ⟨_, _, rfl, F, ρ, _, ρ1, s, r, e1, fun σ1 F1 H1 p1 s1 w1 => ⟨F1, ρ1, _, ρ', s1, dpAll_mono p1.ff _ _ rs, eg1, fun σ2 F2 H2 p2 s2 w2 => k σ2 F2 H2 (p1.trans p2) s2 ⟨w2.1.trans w1.1, fun j hj => by
        rw [List.mem_append, not_or] at hj
        exact (w2.2 j hj.2).trans (w1.2 j hj.1)⟩⟩⟩
theorem dg_tup {k : Nat} {is : List Nat} {gs : List D → Env → Option Env} {n : Nat} (hc : X.calm = true) (h : DGs X es is gs) (hn : (assignEach es X.env).length = n := by rfl) (hst : (assignEach es X.env).findIdx? (·.1) = none := by rfl) : DG X (.Tuple es k pos) is (gTTup n gs) :=
  pg_imp (pg_tup hc h hn hst) fun v σ H Q q => by
    obtain ⟨F, ρ, d, ρ', s, hd, eg, k⟩ := q
    cases d with
    | tuple ds =>
      have eg' : (if ds.length = n then gs ds ρ else none) = some ρ' := eg
      split at eg'
      · rename_i hl
        cases hd with
        | @tup a vs _ h1 d1 => exact ⟨a, vs, rfl, seqT_same s.sub h1, by rw [da_len d1]; exact hl, F, ρ, ds, ρ', s, d1, eg', k⟩
      · cases eg'
    | none => cases eg
    | bool _ => cases eg
    | int _ => cases eg
    | str _ => cases eg
    | list _ => cases eg
    | dict _ => cases eg
def sAsg (g : Md D) (t : D → Env → Option Env) : Sd := fun ρ => (g ρ).bind fun p => (t p.1 p.2).bind fun r => some (.nx, r)
theorem ds_asg {is : List Nat} {g : Md D} {t : D → Env → Option Env} {st : Stmt} (h : PS X st (tAsg (tD (cxK X) g) (tDG (cxK X) is t))) : DS X st (sAsg g t) :=
  ps_imp h fun E σ H q => by
    obtain ⟨F, ρ, f, ρ', s, eg, k⟩ := q
    obtain ⟨⟨d, ρ1⟩, e1, eg1⟩ := bind_some eg
    obtain ⟨r, e2, eg2⟩ := bind_some eg1
    cases eg2
    exact ⟨F, ρ, d, ρ1, s, e1, fun v F1 H1 p1 s1 r1 => ⟨F1, ρ1, d, _, s1, r1, e2, fun σ2 F2 H2 p2 s2 _ => k σ2 F2 H2 (p1.trans p2) s2⟩⟩

/-! ### what is walked -/
def ItOk (K : Kx) (F : Hp) (J : It) (ds : List D) : Prop := ∀ F1 H, Same F F1 → Same F1 H → ∀ i, (∀ d, ds[i]? = some d → J.go i H ∧ ∀ x H', J.yld i H x H' → ∃ F', Grow F1 H F' H' ∧ Rp K F' x d) ∧ (ds.length ≤ i → J.stop i H)
def tDI (K : Kx) (g : Md (List D)) : TI := fun σ H R => ∃ (F : Hp) (ρ : Env) (ds : List D) (ρ' : Env), St K F H σ ρ ∧ g ρ = some (ds, ρ') ∧
  ∀ J F' H', Stp F σ ρ H F' σ ρ' H' → St K F' H' σ ρ' → ItOk K F' J ds → R J H'
abbrev DI (X : Cx) (tg e : Expr) (g : Md (List D)) : Prop := PI X tg e (tDI (cxK X) g)
theorem pi_imp {X : Cx} {tg e : Expr} {t t' : TI} (h : PI X tg e t) (i : ∀ σ H Q, t' σ H Q → t σ H Q) : PI X tg e t' := ⟨fun pins s σ H Q I q => h.run pins s σ H Q I (i σ H Q q)⟩
def signsL (x : Str) : List D := x.cps.toList.map fun c => .str ⟨#[c]⟩
def seqOf : D → Option (List D)
  | .list ds => some ds
  | .tuple ds => some ds
  | .str x => some (signsL x)
  | _ => none
def gSeq (g : Md D) : Md (List D) := fun ρ => (g ρ).bind fun p => (seqOf p.1).bind fun ds => some (ds, p.2)
def iSeq (K : Kx) (tl : TE) : TI := fun σ H R => tl σ H fun v H1 => (∃ x, v = .str x ∧ R (Its x) H1) ∨ ∃ a, v = .ref a ∧ (((∃ xs, SqL K H1 a xs) ∧ R (Itl K a) H1) ∨ ((∃ xs, SqT K H1 a xs) ∧ R (Itt K a) H1))
theorem pi_seq {l : Expr} {tl : TE} (hl : PE X l tl) : PI X tg l (iSeq (cxK X) tl) := by
  refine ⟨fun pins s σ H R I h => ?_⟩
  refine thn (hl.run pins s σ H _ I h) fun v s1 ⟨y, H1, I1, r1, q1⟩ => ?_
  rcases q1 with ⟨x, ex, q⟩ | ⟨a, e, q⟩
  · subst ex
    obtain ⟨t, rfl⟩ := r1
    cases ha : x.cps.all (· < 128)
    · exact wpAny_pyIter_wide ha (pi_one (tk := s1.toks) I1 _ (turn_str _ x t "str_iterator" (.inr rfl)) ⟨_, Heap.get?_push_size _ rfl, rfl, rfl⟩ q)
    · exact wpAny_pyIter_ascii ha (pi_one (tk := s1.toks) I1 _ (turn_str _ x t "str_ascii_iterator" (.inl rfl)) ⟨_, Heap.get?_push_size _ rfl, rfl, rfl⟩ q)
  subst e
  cases r1
  have fp : ∀ b ∈ [s1.heap.objs.size], FpOk X pins H1 b := fun b hb => by
    have e : b = s1.heap.objs.size := by simpa using hb
    subst e
    exact I1.fpOk (Nat.le_refl _) (I1.hok.fresh (Nat.le_refl _))
  rcases q with ⟨⟨xs, hq⟩, q⟩ | ⟨⟨xs, hq⟩, q⟩
  · obtain ⟨its, rv, p, hz⟩ := I1.list hq
    refine wpAny_pyIter_list p.isList ?_
    exact ⟨s1.heap.objs.size, [s1.heap.objs.size], _, _, H1, rfl, I1.kept (t' := s1.toks) fun b o e => Heap.get?_push_of_some _ e, turn_list a _, ⟨_, Heap.get?_push_size _ rfl, rfl, rfl⟩, fp, q⟩
  · obtain ⟨its, rv, p, hz⟩ := I1.tuple hq
    refine wpAny_pyIter_tuple (show s1.heap.IsTuple a its.toArray from p) ?_
    exact ⟨s1.heap.objs.size, [s1.heap.objs.size], _, _, H1, rfl, I1.kept (t' := s1.toks) fun b o e => Heap.get?_push_of_some _ e, turn_tuple a _, ⟨_, Heap.get?_push_size _ rfl, rfl, rfl⟩, fp, q⟩
theorem it_str {K : Kx} {F : Hp} {x : Str} : ItOk K F (Its x) (signsL x) := fun F1 H s1 s2 i => by
  have hl : (signsL x).length = x.cps.size := by simp [signsL]
  refine ⟨fun d e => ?_, fun h => by rw [hl] at h; exact h⟩
  have hi : i < x.cps.size := by
    have := (List.getElem?_eq_some_iff.mp e).1
    rw [hl] at this
    exact this
  refine ⟨hi, fun y H' hy => ?_⟩
  obtain ⟨rfl, c, hc, rfl⟩ := hy
  have e2 : d = .str ⟨#[c]⟩ := by
    unfold signsL at e
    rw [List.getElem?_map, Array.getElem?_toList, hc] at e
    exact (Option.some.inj e).symm
  subst e2
  exact ⟨F1, Grow.refl s2, .str _⟩
theorem it_list {K : Kx} {F : Hp} {a : Addr} {vs : List V} {ds : List D} (h : SqL K F a vs) (r : RpAll K F vs ds) : ItOk K F (Itl K a) ds := fun F1 H s1 s2 i => by
  have hH := (s1.trans s2).seq h
  refine ⟨fun d e => ?_, fun hl => ⟨vs, hH, by rw [da_len r]; exact hl⟩⟩
  obtain ⟨v, e1, rv⟩ := da_at r e
  refine ⟨⟨vs, v, hH, e1⟩, fun y H' hy => ?_⟩
  obtain ⟨rfl, hy⟩ := hy
  have e2 := (hy vs hH).symm.trans e1
  cases e2
  exact ⟨F1, Grow.refl s2, dp_mono s1 _ _ rv⟩
theorem it_tup {K : Kx} {F : Hp} {a : Addr} {vs : List V} {ds : List D} (h : SqT K F a vs) (r : RpAll K F vs ds) : ItOk K F (Itt K a) ds := fun F1 H s1 s2 i => by
  have hH := seqT_same (s1.trans s2) h
  refine ⟨fun d e => ?_, fun hl => ⟨vs, hH, by rw [da_len r]; exact hl⟩⟩
  obtain ⟨v, e1, rv⟩ := da_at r e
  refine ⟨⟨vs, v, hH, e1⟩, fun y H' hy => ?_⟩
  obtain ⟨rfl, hy⟩ := hy
  have e2 := (hy vs hH).symm.trans e1
  cases e2
  exact ⟨F1, Grow.refl s2, dp_mono s1 _ _ rv⟩
theorem di_seq {g : Md D} (h : DE X e g) : DI X tg e (gSeq g) := pi_imp (pi_seq h) fun σ H R q => by
  obtain ⟨F, ρ, ds, ρ', s, eg, k⟩ := q
  obtain ⟨⟨d, ρ1⟩, e1, eg1⟩ := bind_some eg
  obtain ⟨z, e2, eg2⟩ := bind_some eg1
  cases eg2
  refine ⟨F, ρ, d, _, s, e1, fun v F1 H1 p1 s1 r1 => ?_⟩
  cases d with
  | list xs =>
    cases e2
    cases r1 with
    | @lst a vs _ h1 d1 => exact .inr ⟨a, rfl, .inl ⟨⟨vs, s1.sub.seq h1⟩, k _ F1 H1 p1 s1 (it_list h1 d1)⟩⟩
  | tuple xs =>
    cases e2
    cases r1 with
    | @tup a vs _ h1 d1 => exact .inr ⟨a, rfl, .inr ⟨⟨vs, seqT_same s1.sub h1⟩, k _ F1 H1 p1 s1 (it_tup h1 d1)⟩⟩
  | none => cases e2
  | bool _ => cases e2
  | int _ => cases e2
  | str z =>
    cases e2
    cases r1
    exact .inl ⟨z, rfl, k _ F1 H1 p1 s1 it_str⟩
  | dict _ => cases e2
/-- range(a), range(a, b) -/
def rngL (lo : Int) (n : Nat) : List D := (List.range n).map fun i : Nat => .int (lo + i)
def small62 (j : Int) : Bool := decide (-(2 ^ 62) ≤ j ∧ j < 2 ^ 62)
def gRng1 (gs : Md (List D)) : Md (List D) := fun ρ => (gs ρ).bind fun p => match p.1 with
  | [.int j] => if small62 j = true then some (rngL 0 j.toNat, p.2) else none
  | _ => none
def gRng2 (gs : Md (List D)) : Md (List D) := fun ρ => (gs ρ).bind fun p => match p.1 with
  | [.int i, .int j] => if small62 i = true ∧ small62 j = true then some (rngL i (j - i).toNat, p.2) else none
  | _ => none
theorem it_rng {K : Kx} {F : Hp} {lo : Int} {n : Nat} : ItOk K F (Itr lo n) (rngL lo n) := fun F1 H s1 s2 i => by
  have hl : (rngL lo n).length = n := by simp [rngL]
  refine ⟨fun d e => ?_, fun h => by rw [hl] at h; exact h⟩
  have hi : i < n := by
    have := (List.getElem?_eq_some_iff.mp e).1
    rw [hl] at this
    exact this
  have ed : d = .int (lo + i) := by
    unfold rngL at e
    rw [List.getElem?_map, List.getElem?_range hi] at e
    exact (Option.some.inj e).symm
  subst ed
  refine ⟨hi, fun y H' hy => ?_⟩
  obtain ⟨rfl, rfl⟩ := hy
  exact ⟨F1, Grow.refl s2, .int _⟩
theorem di_rng1 {gs : Md (List D)} {p pos : Pos} (hg : Gl X "range") (hm : X.mg "range" = none) (ha : DA X [a] gs) (hs : starEach [a] X.env = [(false, eval a X.env)] := by rfl) : DI X tg (.Call (.Name "range" p) [a] [] pos) (gRng1 gs) :=
  pi_imp (pi_range1 hg hm ha hs) fun σ H R q => by
    obtain ⟨F, ρ, ds, ρ', s, eg, k⟩ := q
    obtain ⟨⟨d, ρ1⟩, e1, eg1⟩ := bind_some eg
    simp only at eg1
    split at eg1
    · rename_i j
      split at eg1
      · rename_i hj
        cases eg1
        have hj' := of_decide_eq_true hj
        refine ⟨F, ρ, _, _, s, e1, fun vs F1 H1 p1 s1 r1 => ?_⟩
        obtain ⟨v, rfl, rv⟩ := da1 r1
        cases rv
        exact ⟨j, rfl, hj'.1, hj'.2, k _ F1 H1 p1 s1 it_rng⟩
      · cases eg1
    · cases eg1
theorem di_rng2 {gs : Md (List D)} {p pos : Pos} (hg : Gl X "range") (hm : X.mg "range" = none) (ha : DA X [a, b] gs) (hs : starEach [a, b] X.env = [(false, eval a X.env), (false, eval b X.env)] := by rfl) (hs2 : starEach [b] X.env = [(false, eval b X.env)] := by rfl) : DI X tg (.Call (.Name "range" p) [a, b] [] pos) (gRng2 gs) :=
  pi_imp (pi_range2 hg hm ha hs hs2) fun σ H R q => by
    obtain ⟨F, ρ, ds, ρ', s, eg, k⟩ := q
    obtain ⟨⟨d, ρ1⟩, e1, eg1⟩ := bind_some eg
    simp only at eg1
    split at eg1
    · rename_i i j
      split at eg1
      · rename_i hj
        cases eg1
        have hi' := of_decide_eq_true hj.1
        have hj' := of_decide_eq_true hj.2
        refine ⟨F, ρ, _, _, s, e1, fun vs F1 H1 p1 s1 r1 => ?_⟩
        obtain ⟨v, w, rfl, rv, rw'⟩ := da2 r1
        cases rv
        cases rw'
        exact ⟨i, j, rfl, ⟨hi'.1, hi'.2, hj'.1, hj'.2⟩, k _ F1 H1 p1 s1 it_rng⟩
      · cases eg1
    · cases eg1

/-! ### for, while -/
def forD (tg : D → Env → Option Env) (body : Sd) : List D → Sd
  | [] => fun ρ => some (.nx, ρ)
  | d :: ds => fun ρ => (tg d ρ).bind fun ρ1 => (body ρ1).bind fun p => match p.1 with
    | .nx => forD tg body ds p.2
    | .cnt => forD tg body ds p.2
    | .brk => some (.nx, p.2)
    | .ret r => some (.ret r, p.2)
    | .rof r => some (.rof r, p.2)
def sFor (gi : Md (List D)) (tg : D → Env → Option Env) (body : Sd) : Sd := fun ρ => (gi ρ).bind fun p => forD tg body p.1 p.2
theorem drop_cons {α : Type} {l : List α} {i : Nat} {d : α} (h : l[i]? = some d) : l.drop i = d :: l.drop (i + 1) := by
  obtain ⟨hl, e⟩ := List.getElem?_eq_some_iff.mp h
  rw [List.drop_eq_getElem_cons hl, e]
theorem ds_for {gi : Md (List D)} {gt : D → Env → Option Env} {gb : Sd} {body : List Stmt} (hp : PassesOwn (model X.prog X.w) X.A X.env X.xe) (hc : X.calm = true) (hi : DI X tg iter gi) {is : List Nat} (hg : DG X tg is gt) (hb : DSs X body gb) (hs : ∀ x, foldedSetIterable iter X.env x = pure x := by intro _; rfl) : DS X (.For tg iter body [] pos) (sFor gi gt gb) :=
  ps_imp (ps_for hp hc hi hg hb hs) fun E σ H q => by
    obtain ⟨F, ρ, f, ρ', s, eg, k⟩ := q
    obtain ⟨⟨ds, ρ1⟩, e1, eg1⟩ := bind_some eg
    refine ⟨F, ρ, ds, ρ1, s, e1, fun J F1 H1 p1 s1 ok => ?_⟩
    refine ⟨fun i m σi Hi => ∃ Fi ρi, m = ds.length - i ∧ i ≤ ds.length ∧ Stp F σ ρ H Fi σi ρi Hi ∧ St (cxK X) Fi Hi σi ρi ∧ Same F1 Fi ∧ forD gt gb (ds.drop i) ρi = some (f, ρ'), ⟨ds.length, F1, ρ1, by simp, Nat.zero_le _, p1, s1, Same.refl _, by simpa using eg1⟩, ?_⟩
    rintro i m σi Hi ⟨Fi, ρi, rfl, hi, pi, si, sf, ei⟩
    by_cases hlt : i < ds.length
    · have hd : ds[i]? = some ds[i] := List.getElem?_eq_getElem hlt
      obtain ⟨ok1, _⟩ := ok Fi Hi sf si.sub i
      obtain ⟨go, yl⟩ := ok1 _ hd
      rw [drop_cons hd] at ei
      obtain ⟨ρ2, e2, ei1⟩ := bind_some ei
      obtain ⟨⟨f3, ρ3⟩, e3, ei2⟩ := bind_some ei1
      refine .inr ⟨go, fun σ' H' => ∃ F' ρ'', Stp F σ ρ H F' σ' ρ'' H' ∧ St (cxK X) F' H' σ' ρ'' ∧ Same F1 F' ∧ forD gt gb (ds.drop (i + 1)) ρ'' = some (f, ρ'), fun σ' H' ⟨F', ρ'', h1, h2, h3, h4⟩ => ⟨ds.length - (i + 1), by omega, F', ρ'', rfl, hlt, h1, h2, h3, h4⟩, fun v H' hy => ?_⟩
      obtain ⟨F', gr, rv⟩ := yl v H' hy
      have p' := pi.trans (gr.stp σi ρi)
      refine ⟨F', ρi, _, ρ2, si.grow gr, rv, e2, fun σ2 F2 H2 p2 s2 _ => ⟨F2, ρ2, f3, ρ3, s2, e3, fun σ3 F3 H3 p3 s3 => ?_⟩⟩
      have pp := p'.trans (p2.trans p3)
      have sff := sf.trans (gr.ff.trans (p2.ff.trans p3.ff))
      cases f3 with
      | nx => exact ⟨F3, ρ3, pp, s3, sff, ei2⟩
      | cnt => exact ⟨F3, ρ3, pp, s3, sff, ei2⟩
      | brk =>
        cases ei2
        exact k σ3 F3 H3 pp s3
      | ret r =>
        cases ei2
        exact k σ3 F3 H3 pp s3
      | rof r =>
        cases ei2
        exact fl_base (k σ3 F3 H3 pp s3) fun _ n => p'.none (p2.none n)
    · have hl : i = ds.length := by omega
      obtain ⟨_, st⟩ := ok Fi Hi sf si.sub i
      rw [List.drop_of_length_le (by omega)] at ei
      cases ei
      exact .inl ⟨st (by omega), k σi Fi Hi pi si⟩
def whileD (c : Md Bool) (body : Sd) : Nat → Sd
  | 0 => fun _ => none
  | n + 1 => fun ρ => (c ρ).bind fun q => if q.1 = true then (body q.2).bind fun p => match p.1 with
    | .nx => whileD c body n p.2
    | .cnt => whileD c body n p.2
    | .brk => some (.nx, p.2)
    | .ret r => some (.ret r, p.2)
    | .rof r => some (.rof r, p.2) else some (.nx, q.2)
theorem ds_while (n : Nat) {gc : Md Bool} {gb : Sd} {body : List Stmt} (hp : PassesOwn (model X.prog X.w) X.A X.env X.xe) (hc : DT X c gc) (hb : DSs X body gb) : DS X (.While c body [] pos) (whileD gc gb n) :=
  ps_imp (ps_while hp hc hb) fun E σ H q => by
    obtain ⟨F, ρ, f, ρ', s, eg, k⟩ := q
    refine ⟨fun m σi Hi => ∃ Fi ρi, Stp F σ ρ H Fi σi ρi Hi ∧ St (cxK X) Fi Hi σi ρi ∧ whileD gc gb m ρi = some (f, ρ'), ⟨n, F, ρ, Stp.refl, s, eg⟩, ?_⟩
    rintro m σi Hi ⟨Fi, ρi, pi, si, ei⟩
    cases m with
    | zero => cases ei
    | succ m =>
      obtain ⟨⟨b, ρ1⟩, e1, ei1⟩ := bind_some ei
      refine ⟨Fi, ρi, b, ρ1, si, e1, fun F1 H1 p1 s1 => ?_⟩
      cases b with
      | false =>
        rw [if_neg Bool.false_ne_true] at ei1 ⊢
        cases ei1
        exact k σi F1 H1 (pi.trans p1) s1
      | true =>
        rw [if_pos rfl] at ei1 ⊢
        obtain ⟨⟨f3, ρ3⟩, e3, ei2⟩ := bind_some ei1
        refine ⟨fun σ' H' => ∃ F' ρ'', Stp F σ ρ H F' σ' ρ'' H' ∧ St (cxK X) F' H' σ' ρ'' ∧ whileD gc gb m ρ'' = some (f, ρ'), fun σ' H' ⟨F', ρ'', h1, h2, h3⟩ => ⟨m, Nat.lt_succ_self _, F', ρ'', h1, h2, h3⟩, F1, ρ1, f3, ρ3, s1, e3, fun σ3 F3 H3 p3 s3 => ?_⟩
        have pp := pi.trans (p1.trans p3)
        cases f3 with
        | nx => exact ⟨F3, ρ3, pp, s3, ei2⟩
        | cnt => exact ⟨F3, ρ3, pp, s3, ei2⟩
        | brk =>
          cases ei2
          exact k σ3 F3 H3 pp s3
        | ret r =>
          cases ei2
          exact k σ3 F3 H3 pp s3
        | rof r =>
          cases ei2
          exact fl_base (k σ3 F3 H3 pp s3) fun _ n => pi.none (p1.none n)

/-! ### comprehensions -/
def wipeE (ρ : Env) : List Nat → Env
  | [] => ρ
  | v :: vs => (wipeE ρ vs).set v none
def notOwn (ρ : Env) (i : Nat) : Bool := match ρ[i]? with
  | some (some (.own _ _)) => false
  | _ => true
def backE (ρ0 : Env) : List Nat → Env → Env
  | [], ρ => ρ
  | v :: vs, ρ => match ρ0[v]? with
    | some o => (backE ρ0 vs ρ).set v o
    | none => backE ρ0 vs ρ
def lcD (vs : List Nat) (tg : D → Env → Option Env) (tt : Md Bool) (te : Md D) : List D → Env → Option (List D × Env)
  | [], ρ => some ([], ρ)
  | d :: ds, ρ => (tg d ρ).bind fun ρ1 => (tt ρ1).bind fun p => if p.1 = true then (te p.2).bind fun q => (lcD vs tg tt te ds (wipeE q.2 vs)).bind fun r => some (q.1 :: r.1, r.2) else lcD vs tg tt te ds (wipeE p.2 vs)
def gLc (vs : List Nat) (gi : Md (List D)) (tg : D → Env → Option Env) (tt : Md Bool) (te : Md D) : Md D := fun ρ => (gi ρ).bind fun p =>
  if p.1.length ≤ 16777216 ∧ vs.all (notOwn p.2) = true then (lcD vs tg tt te p.1 (wipeE p.2 vs)).bind fun r => some (.list r.1, backE p.2 vs r.2) else none
def gTrue : Md Bool := fun ρ => some (true, ρ)
theorem wipeE_out {ρ : Env} {i : Nat} : ∀ {vs : List Nat}, i ∉ vs → (wipeE ρ vs)[i]? = ρ[i]?
  | [], _ => rfl
  | v :: vs, h => by
    unfold wipeE
    rw [List.getElem?_set_ne (fun z => h (by rw [z]; exact List.mem_cons_self)), wipeE_out fun z => h (List.mem_cons_of_mem _ z)]
theorem wipeE_in {ρ : Env} {i : Nat} {c : Cell} : ∀ {vs : List Nat}, (wipeE ρ vs)[i]? = some (some c) → i ∉ vs
  | [], _ => by simp
  | v :: vs, h => by
    unfold wipeE at h
    by_cases z : v = i
    · subst z
      by_cases hl : v < (wipeE ρ vs).length
      · rw [List.getElem?_set_self hl] at h
        cases h
      · rw [List.getElem?_eq_none (by simpa using hl)] at h
        cases h
    · rw [List.getElem?_set_ne z] at h
      have := wipeE_in h
      simp only [List.mem_cons, not_or]
      exact ⟨fun y => z y.symm, this⟩
theorem wipeE_len (ρ : Env) : ∀ vs : List Nat, (wipeE ρ vs).length = ρ.length
  | [] => rfl
  | v :: vs => by
    unfold wipeE
    rw [List.length_set, wipeE_len ρ vs]
theorem wipeE_cell {ρ : Env} {vs : List Nat} {i : Nat} {c : Cell} (h : (wipeE ρ vs)[i]? = some (some c)) : ρ[i]? = some (some c) ∧ i ∉ vs := by
  have n := wipeE_in h
  rw [wipeE_out n] at h
  exact ⟨h, n⟩
theorem backE_len (ρ0 ρ : Env) : ∀ vs : List Nat, (backE ρ0 vs ρ).length = ρ.length
  | [] => rfl
  | v :: vs => by
    unfold backE
    split
    · rw [List.length_set, backE_len ρ0 ρ vs]
    · exact backE_len ρ0 ρ vs
theorem backE_out {ρ0 ρ : Env} {i : Nat} : ∀ {vs : List Nat}, i ∉ vs → (backE ρ0 vs ρ)[i]? = ρ[i]?
  | [], _ => rfl
  | v :: vs, h => by
    unfold backE
    have h1 : i ∉ vs := fun z => h (List.mem_cons_of_mem _ z)
    split
    · rw [List.getElem?_set_ne (fun z => h (by rw [z]; exact List.mem_cons_self)), backE_out h1]
    · exact backE_out h1
theorem backE_in {ρ0 ρ : Env} {i : Nat} (hl : ρ.length = ρ0.length) : ∀ {vs : List Nat}, i ∈ vs → (backE ρ0 vs ρ)[i]? = ρ0[i]?
  | [], h => by simp at h
  | v :: vs, h => by
    unfold backE
    by_cases z : v = i
    · subst z
      split
      · rename_i o e
        rw [List.getElem?_set_self (by rw [backE_len, hl]; exact (List.getElem?_eq_some_iff.mp e).1), e]
      · rename_i e
        have hl2 : ρ0.length ≤ v := List.getElem?_eq_none_iff.mp e
        rw [e]
        exact List.getElem?_eq_none (by rw [backE_len, hl]; exact hl2)
    · have h1 : i ∈ vs := (List.mem_cons.mp h).resolve_left fun y => z y.symm
      split
      · rw [List.getElem?_set_ne z, backE_in hl h1]
      · exact backE_in hl h1
theorem wipe_out' {σ : L2.St} {i : Nat} {vs : List Nat} (h : i ∉ vs) : (wipe σ vs)[i]? = σ[i]? := wipe_out h
theorem st_wipe {K : Kx} {F H : Hp} {σ : L2.St} {ρ : Env} (s : St K F H σ ρ) (vs : List Nat) : St K F H (wipe σ vs) (wipeE ρ vs) where
  sub := s.sub
  len := by rw [wipeE_len, wipe_length]; exact s.len
  cell := fun i c e => by
    obtain ⟨e1, n⟩ := wipeE_cell e
    rw [wipe_out' n]
    exact s.cell i c e1
  dist := fun i j f g d e a h1 h2 h3 h4 => by
    obtain ⟨e1, n1⟩ := wipeE_cell h1
    obtain ⟨e2, n2⟩ := wipeE_cell h2
    rw [wipe_out' n1] at h3
    rw [wipe_out' n2] at h4
    exact s.dist i j f g d e a e1 e2 h3 h4
theorem not_own {ρ : Env} {vs : List Nat} (h : vs.all (notOwn ρ) = true) {i : Nat} (hi : i ∈ vs) {f : Bool} {d : D} : ρ[i]? ≠ some (some (.own f d)) := fun e => by
  have z := List.all_eq_true.mp h i hi
  unfold notOwn at z
  rw [e] at z
  cases z
theorem stp_wipe {F0 F : Hp} {σ0 σ : L2.St} {ρ0 ρ : Env} {H0 H : Hp} (p : Stp F0 σ0 ρ0 H0 F σ ρ H) {vs : List Nat} (hn : ∀ i d, ρ0[i]? = some (some (.own true d)) → i ∉ vs) : Stp F0 σ0 ρ0 H0 F (wipe σ vs) (wipeE ρ vs) H where
  ff := p.ff
  keep := p.keep
  fresh := fun b hb => by
    obtain ⟨i, f, d, e1, e2⟩ := hb
    obtain ⟨e3, n⟩ := wipeE_cell e1
    rw [wipe_out' n] at e2
    exact p.fresh b ⟨i, f, d, e3, e2⟩
  fix := fun i d h => by
    obtain ⟨e1, d', e2⟩ := p.fix i d h
    have n := hn i d h
    rw [wipe_out' n, wipeE_out n]
    exact ⟨e1, d', e2⟩
  dom := p.dom
theorem st_side {K : Kx} {F H : Hp} {σ : L2.St} {ρ : Env} {b : Addr} {o : HO} (s : St K F H σ ρ) (hF : F b = none) (n : ¬ Owns σ ρ b) : St K F (upd H b o) σ ρ where
  sub := fun c u h => by rw [upd_ne (fun z => by subst z; rw [hF] at h; cases h)]; exact s.sub c u h
  len := s.len
  cell := fun i c e => by
    have q := s.cell i c e
    cases c with
    | val d => exact q
    | own f d =>
      obtain ⟨a, e1, f0, ow⟩ := q
      refine ⟨a, e1, f0, ow.mono (Same.refl _) fun o e3 => ?_⟩
      rw [upd_ne (fun z => n (by subst z; exact ⟨i, f, d, e, e1⟩))]
      exact e3
  dist := s.dist
theorem stp_side {F0 F : Hp} {σ0 σ : L2.St} {ρ0 ρ : Env} {H0 H : Hp} (p : Stp F0 σ0 ρ0 H0 F σ ρ H) {b : Addr} {o : HO} (hb : H0 b = none) : Stp F0 σ0 ρ0 H0 F σ ρ (upd H b o) :=
  ⟨p.ff, fun c u h n => by rw [upd_ne (ne_of_none h hb)]; exact p.keep c u h n, p.fresh, p.fix, fun c u h => by rw [upd_ne (ne_of_none h hb)]; exact p.dom c u h⟩
theorem stp_back {F0 F : Hp} {σ : L2.St} {ρ0 ρ : Env} {H0 H : Hp} {vs : List Nat} (p : Stp F0 σ ρ0 H0 F (wipe σ vs) ρ H) (hl : ρ.length = ρ0.length) (hn : vs.all (notOwn ρ0) = true) : Stp F0 σ ρ0 H0 F σ (backE ρ0 vs ρ) H ∧ ∀ b, Owns σ (backE ρ0 vs ρ) b → Owns (wipe σ vs) ρ b := by
  have sub : ∀ b, Owns σ (backE ρ0 vs ρ) b → Owns (wipe σ vs) ρ b := fun b hb => by
    obtain ⟨i, f, d, e1, e2⟩ := hb
    by_cases hi : i ∈ vs
    · rw [backE_in hl hi] at e1
      exact absurd e1 (not_own hn hi)
    · rw [backE_out hi] at e1
      exact ⟨i, f, d, e1, by rw [wipe_out' hi]; exact e2⟩
  refine ⟨⟨p.ff, p.keep, fun b hb => p.fresh b (sub b hb), fun i d h => ?_, p.dom⟩, sub⟩
  have hi : i ∉ vs := fun z => not_own hn z h
  obtain ⟨e1, d', e2⟩ := p.fix i d h
  exact ⟨rfl, d', by rw [backE_out hi]; exact e2⟩
theorem st_back {K : Kx} {F0 F H0 H : Hp} {σ : L2.St} {ρ0 ρ : Env} {vs : List Nat} (s0 : St K F0 H0 σ ρ0) (s : St K F H (wipe σ vs) ρ) (sf : Same F0 F) (hn : vs.all (notOwn ρ0) = true) : St K F H σ (backE ρ0 vs ρ) := by
  have hl : ρ.length = ρ0.length := by rw [s.len, wipe_length, s0.len]
  have own : ∀ (i : Nat) (f : Bool) (d : D), (backE ρ0 vs ρ)[i]? = some (some (.own f d)) → i ∉ vs ∧ ρ[i]? = some (some (.own f d)) := fun i f d e => by
    by_cases hi : i ∈ vs
    · rw [backE_in hl hi] at e
      exact absurd e (not_own hn hi)
    · rw [backE_out hi] at e
      exact ⟨hi, e⟩
  refine ⟨s.sub, by rw [backE_len, hl]; exact s0.len, fun i c e => ?_, fun i j f g d e a h1 h2 h3 h4 => ?_⟩
  · by_cases hi : i ∈ vs
    · rw [backE_in hl hi] at e
      cases c with
      | val d =>
        obtain ⟨v, e1, r⟩ := s0.cell i _ e
        exact ⟨v, e1, dp_mono sf _ _ r⟩
      | own f d => exact absurd e (not_own hn hi)
    · rw [backE_out hi] at e
      have q := s.cell i c e
      rw [wipe_out' hi] at q
      exact q
  · obtain ⟨n1, e1⟩ := own i f d h1
    obtain ⟨n2, e2⟩ := own j g e h2
    exact s.dist i j f g d e a e1 e2 (by rw [wipe_out' n1]; exact h3) (by rw [wipe_out' n2]; exact h4)
theorem wipe_in' {σ : L2.St} {i : Nat} (hi : i < σ.length) : ∀ {vs : List Nat}, i ∈ vs → (wipe σ vs)[i]? = some none
  | [], h => by simp at h
  | v :: vs, h => by
    unfold wipe
    by_cases z : v = i
    · subst z
      exact List.getElem?_set_self (by rw [wipe_length]; exact hi)
    · rw [List.getElem?_set_ne z]
      exact wipe_in' hi ((List.mem_cons.mp h).resolve_left fun y => z y.symm)
theorem wipe_eq {σ σ2 : L2.St} {vs is : List Nat} (hs : ∀ j, j ∉ is → σ2[j]? = (wipe σ vs)[j]?) (hv : ∀ j ∈ is, j ∈ vs) (hl : σ2.length = σ.length) : wipe σ2 vs = wipe σ vs := by
  refine List.ext_getElem? fun j => ?_
  by_cases hj : j ∈ vs
  · by_cases h : j < σ.length
    · rw [wipe_in' h hj, wipe_in' (by rw [hl]; exact h) hj]
    · rw [List.getElem?_eq_none (by rw [wipe_length, hl]; omega), List.getElem?_eq_none (by rw [wipe_length]; omega)]
  · rw [wipe_out' hj]
    exact hs j fun z => hj (hv j z)
theorem lc_q {vs is : List Nat} (hv : ∀ j ∈ is, j ∈ vs) {gi : Md (List D)} {gt : D → Env → Option Env} {gc : Md Bool} {ge : Md D} {σ : L2.St} {H : Hp} {Q : VK} (q : tF (cxK X) (gLc vs gi gt gc ge) σ H Q) : tLc (tDI (cxK X) gi) (tDG (cxK X) is gt) (tDT (cxK X) gc) (tD (cxK X) ge) vs σ H Q := by
    obtain ⟨F, ρ, d, ρ', s, eg, k⟩ := q
    obtain ⟨⟨ds, ρ1⟩, e1, eg1⟩ := bind_some eg
    simp only at eg1
    split at eg1
    · rename_i hl
      obtain ⟨⟨rs, ρe⟩, e2, eg2⟩ := bind_some eg1
      cases eg2
      refine ⟨F, ρ, ds, ρ1, s, e1, fun J F1 H1 p1 s1 ok D hD => ?_⟩
      have hw := st_wipe s1 vs
      have hnv : ∀ i dd, ρ1[i]? = some (some (.own true dd)) → i ∉ vs := fun i dd e hi => not_own hl.2 hi e
      have p1w : Stp F1 σ ρ1 H1 F1 (wipe σ vs) (wipeE ρ1 vs) H1 := stp_wipe Stp.refl hnv
      have nD0 : ¬ Owns (wipe σ vs) (wipeE ρ1 vs) D := not_owns hw hD
      refine ⟨fun i m Hi => ∃ Fi ρi acc as rr, m = ds.length - i ∧ i ≤ ds.length ∧ Stp F1 σ ρ1 H1 Fi (wipe σ vs) ρi Hi ∧ St (cxK X) Fi Hi (wipe σ vs) ρi ∧ lcD vs gt gc ge (ds.drop i) ρi = some (rr, ρe) ∧ as ++ rr = rs ∧ (Fi D = none ∧ ¬ Owns (wipe σ vs) ρi D) ∧ Hi D = some (.lst acc) ∧ RpAll (cxK X) Fi acc as ∧ as.length ≤ i,
        ⟨ds.length, F1, wipeE ρ1 vs, [], [], rs, by simp, Nat.zero_le _, p1w.trans ((Grow.own s1.sub hD).stp _ _), hw.grow (Grow.own s1.sub hD), by simpa using e2, by simp, ⟨none_sub s1.sub hD, nD0⟩, upd_same, .nil, by simp⟩, ?_⟩
      rintro i m Hi ⟨Fi, ρi, acc, as, rr, rfl, hi, pi, si, ei, er, ⟨fD, nD⟩, hDi, ra, la⟩
      have sff : Same F1 Fi := pi.ff
      by_cases hlt : i < ds.length
      · have hd : ds[i]? = some ds[i] := List.getElem?_eq_getElem hlt
        obtain ⟨ok1, _⟩ := ok Fi Hi sff si.sub i
        obtain ⟨go, yl⟩ := ok1 _ hd
        rw [drop_cons hd] at ei
        obtain ⟨ρ2, e3, ei1⟩ := bind_some ei
        obtain ⟨⟨b, ρ3⟩, e4, ei2⟩ := bind_some ei1
        refine .inr ⟨go, fun H' => ∃ F' ρ'' acc' as' rr', Stp F1 σ ρ1 H1 F' (wipe σ vs) ρ'' H' ∧ St (cxK X) F' H' (wipe σ vs) ρ'' ∧ lcD vs gt gc ge (ds.drop (i + 1)) ρ'' = some (rr', ρe) ∧ as' ++ rr' = rs ∧ (F' D = none ∧ ¬ Owns (wipe σ vs) ρ'' D) ∧ H' D = some (.lst acc') ∧ RpAll (cxK X) F' acc' as' ∧ as'.length ≤ i + 1,
          fun H' ⟨F', ρ'', acc', as', rr', z1, z2, z3, z4, z5, z6, z7, z8⟩ => ⟨ds.length - (i + 1), by omega, F', ρ'', acc', as', rr', rfl, hlt, z1, z2, z3, z4, z5, z6, z7, z8⟩, fun v H' hy => ?_⟩
        obtain ⟨F', gr, rv⟩ := yl v H' hy
        have q0 := gr.stp (wipe σ vs) ρi
        refine ⟨F', ρi, _, ρ2, si.grow gr, rv, e3, fun σ2 F2 H2 p2 s2 w2 => ?_⟩
        have ew : wipe σ2 vs = wipe σ vs := wipe_eq w2.2 hv (w2.1.trans (wipe_length σ vs))
        refine ⟨ew, F2, ρ2, b, ρ3, s2, e4, fun F3 H3 p3 s3 => ?_⟩
        have q3 := q0.trans (p2.trans p3)
        have fin : ∀ (F4 : Hp) (ρ4 : Env) (H4 : Hp), Stp Fi (wipe σ vs) ρi Hi F4 σ2 ρ4 H4 → St (cxK X) F4 H4 σ2 ρ4 → H4 D = some (.lst acc) ∧ F4 D = none ∧ ¬ Owns (wipe σ vs) (wipeE ρ4 vs) D ∧ Stp F1 σ ρ1 H1 F4 (wipe σ vs) (wipeE ρ4 vs) H4 ∧ St (cxK X) F4 H4 (wipe σ vs) (wipeE ρ4 vs) := fun F4 ρ4 H4 q s4 => by
          obtain ⟨h1, h2⟩ := q.keep D _ hDi nD
          have h3 := stp_wipe (pi.trans q) hnv
          have h4 := st_wipe s4 vs
          rw [ew] at h3 h4
          refine ⟨h1, h2.trans fD, fun z => ?_, h3, h4⟩
          obtain ⟨j, f, dd, z1, z2⟩ := z
          obtain ⟨z3, z4⟩ := wipeE_cell z1
          rw [← ew, wipe_out' z4] at z2
          rcases q.fresh D ⟨j, f, dd, z3, z2⟩ with y | y
          · exact nD y
          · rw [hDi] at y
            cases y
        cases b with
        | true =>
          rw [if_pos rfl] at ei2
          obtain ⟨⟨y, ρ4⟩, e5, ei3⟩ := bind_some ei2
          obtain ⟨⟨r, ρ5⟩, e6, ei4⟩ := bind_some ei3
          cases ei4
          refine ⟨F3, ρ3, y, ρ4, s3, e5, fun u F4 H4 p4 s4 r4 => ?_⟩
          have q4 := q3.trans p4
          obtain ⟨h1, h2, h3, h4, h5⟩ := fin F4 ρ4 H4 q4 s4
          refine ⟨acc, h1, by rw [line_eq, da_len ra]; omega, F4, wipeE ρ4 vs, acc ++ [u], as ++ [y], r, stp_side h4 hD, st_side h5 h2 h3, e6, by rw [List.append_assoc]; exact er, ⟨h2, h3⟩, upd_same, da_app (dpAll_mono q4.ff _ _ ra) (.cons r4 .nil), by rw [List.length_append]; simpa using la⟩
        | false =>
          rw [if_neg Bool.false_ne_true] at ei2
          obtain ⟨h1, h2, h3, h4, h5⟩ := fin F3 ρ3 H3 q3 s3
          exact ⟨F3, wipeE ρ3 vs, acc, as, rr, h4, h5, ei2, er, ⟨h2, h3⟩, h1, dpAll_mono q3.ff _ _ ra, by omega⟩
      · rw [List.drop_of_length_le (by omega)] at ei
        cases ei
        obtain ⟨_, st⟩ := ok Fi Hi sff si.sub i
        refine .inl ⟨st (by omega), ?_⟩
        rw [List.append_nil] at er
        subst er
        obtain ⟨pb, sb⟩ := stp_back pi (by rw [si.len, wipe_length, s1.len]) hl.2
        exact k D Fi Hi (p1.trans pb) (st_back s1 si sff hl.2) ⟨fD, .inl ⟨acc, as, rfl, hDi, ra⟩⟩ (fun z => nD (sb D z)) (p1.none hD)
    · cases eg1
end
end Dn
set_option maxHeartbeats 2000000
/-! defs as functions on data; names that are looked at -/
namespace Dn
open PySem PySem.Spec PyProof.Rows L2

/-! ### defs -/
def vals (ds : List D) : Env := ds.map fun d => some (.val d)
def envV (N : Nat) (ds : List D) : Env := vals ds ++ List.replicate (N - ds.length) none
def endV : Fl × Env → Option D
  | (.ret d, _) => some d
  | (.nx, _) => some .none
  | _ => none
def runV (N : Nat) (g : Sd) (ds : List D) : Option D := (g (envV N ds)).bind endV
def envIO (N : Nat) (d : D) (ds : List D) : Env := some (.own true d) :: (vals ds ++ List.replicate (N - (ds.length + 1)) none)
def ownOf : Option (Option Cell) → Option D
  | some (some (.own true d)) => some d
  | _ => none
def endIO (p : Fl × Env) : Option (D × D) := (ownOf p.2[0]?).bind fun d => (endV p).bind fun r => some (r, d)
def runIO (N : Nat) (g : Sd) (d : D) (ds : List D) : Option (D × D) := (g (envIO N d ds)).bind endIO

theorem vals_get {ds : List D} {n i : Nat} {c : Cell} (h : (vals ds ++ List.replicate n none)[i]? = some (some c)) : ∃ d, ds[i]? = some d ∧ c = .val d := by
  by_cases hi : i < ds.length
  · rw [List.getElem?_append_left (by simpa [vals] using hi)] at h
    unfold vals at h
    rw [List.getElem?_map] at h
    cases q : ds[i]? with
    | none => rw [q] at h; cases h
    | some d =>
      rw [q] at h
      cases h
      exact ⟨d, rfl, rfl⟩
  · rw [List.getElem?_append_right (by simpa [vals] using Nat.le_of_not_lt hi)] at h
    have h2 := List.mem_of_getElem? h
    have := List.eq_of_mem_replicate h2
    cases this
theorem start_get {vs : List V} {n i : Nat} {v : V} (h : vs[i]? = some v) : (vs.map some ++ List.replicate n none)[i]? = some (some v) := by
  have hi := (List.getElem?_eq_some_iff.mp h).1
  rw [List.getElem?_append_left (by simpa using hi), List.getElem?_map, h]
  rfl
theorem st_vals {K : Kx} {F H : Hp} {N : List Str} {vs : List V} {ds : List D} (s : Same F H) (hd : RpAll K F vs ds) : St K F H (L2.start N vs) (envV N.length ds) where
  sub := s
  len := by simp [envV, L2.start, vals, da_len hd]
  cell := fun i c h => by
    obtain ⟨d, e, rfl⟩ := vals_get h
    obtain ⟨v, e1, r⟩ := da_at hd e
    exact ⟨v, start_get e1, r⟩
  dist := fun i j f g d e a h1 _ _ _ => by
    obtain ⟨d', _, z⟩ := vals_get h1
    cases z
theorem no_owns {σ : L2.St} {N : Nat} {ds : List D} {b : Addr} : ¬ Owns σ (envV N ds) b := fun z => by
  obtain ⟨i, f, d, h, _⟩ := z
  obtain ⟨d', _, z⟩ := vals_get h
  cases z
theorem stp_grow {K : Kx} {F F' H H' : Hp} {σ σ' : L2.St} {N : Nat} {ds : List D} {ρ' : Env} (p : Stp F σ (envV N ds) H F' σ' ρ' H') (s : St K F' H' σ' ρ') : Grow F H F' H' :=
  ⟨p.ff, fun b o h => (p.keep b o h no_owns).1, s.sub, fun b o h => (p.keep b o h no_owns).2⟩
section
variable {P : Program} {w : World} {K : PySem.W.Frag} {mg : Str → Option Value} {base : Heap}
theorem fn_V {x qual : Str} {st : Stmt} {f : Addr} {fd : FuncData} {N ps : List Str} {k : Nat} {g : Sd} (Fn : Fun K x qual st f fd) (S : FnScope N ps (defScope st))
    (hbody : ∀ (cdv : Value) (A : Around) (outer : List PySem.Env) (s : Shared) (H : Hp) (E : XK), Room k (A.deeper (envOfC qual (defScope st) s.heap.objs.size f cdv)) → DSs (cxOf CX0 P w K mg base N qual (defScope st) f cdv A outer s H E).nox (defBody st) g) :
    FnOk P w K mg base CX0 (k + 1) f fd ps (spV ⟨K, P, w⟩ ps.length (runV N.length g)) := by
  refine Fn.ok S (fun vs H Q E h => h.1) fun cdv A outer s H vs Q E hr h => ⟨_, hbody cdv A outer s H E hr, ?_⟩
  obtain ⟨_, F, ds, r, sf, hd, ef, k⟩ := h
  obtain ⟨⟨fl, ρ'⟩, e1, e2⟩ := bind_some ef
  refine ⟨F, envV N.length ds, fl, ρ', st_vals sf hd, e1, fun σ' F' H' p s' => ?_⟩
  have gr := stp_grow p s'
  cases fl with
  | nx =>
    cases e2
    exact k .non F' H' gr .non
  | ret d =>
    cases e2
    exact fun v rv => k v F' H' gr rv
  | rof d => cases e2
  | brk => cases e2
  | cnt => cases e2
def endF : Fl × Env → Option D
  | (.rof d, _) => some d
  | _ => none
def runF (N : Nat) (g : Sd) (ds : List D) : Option D := (g (envV N ds)).bind endF
theorem fn_F {x qual : Str} {st : Stmt} {f : Addr} {fd : FuncData} {N ps : List Str} {k : Nat} {g : Sd} (Fn : Fun K x qual st f fd) (S : FnScope N ps (defScope st))
    (hbody : ∀ (cdv : Value) (A : Around) (outer : List PySem.Env) (s : Shared) (H : Hp) (E : XK), Room k (A.deeper (envOfC qual (defScope st) s.heap.objs.size f cdv)) → DSs (cxOf CX0 P w K mg base N qual (defScope st) f cdv A outer s H E).nox (defBody st) g) :
    FnOk P w K mg base CX0 (k + 1) f fd ps (spF ⟨K, P, w⟩ ps.length (runF N.length g)) := by
  refine Fn.ok S (fun vs H Q E h => h.1) fun cdv A outer s H vs Q E hr h => ⟨_, hbody cdv A outer s H E hr, ?_⟩
  obtain ⟨_, F, ds, r, sf, hd, ef, k⟩ := h
  obtain ⟨⟨fl, ρ'⟩, e1, e2⟩ := bind_some ef
  refine ⟨F, envV N.length ds, fl, ρ', st_vals sf hd, e1, fun σ' F' H' p s' => ?_⟩
  have gr := stp_grow p s'
  cases fl with
  | rof d =>
    cases e2
    exact fun a o n => k a F' H' gr o n
  | nx => cases e2
  | ret d => cases e2
  | brk => cases e2
  | cnt => cases e2
theorem io_get {d : D} {ds : List D} {n i : Nat} {c : Cell} (h : ((some (Cell.own true d) :: (vals ds ++ List.replicate n none)) : Env)[i]? = some (some c)) : (i = 0 ∧ c = .own true d) ∨ ∃ j e, i = j + 1 ∧ ds[j]? = some e ∧ c = .val e := by
  cases i with
  | zero =>
    cases h
    exact .inl ⟨rfl, rfl⟩
  | succ j =>
    rw [List.getElem?_cons_succ] at h
    obtain ⟨e, h1, h2⟩ := vals_get h
    exact .inr ⟨j, e, rfl, h1, h2⟩
theorem fn_IO {x qual : Str} {st : Stmt} {f : Addr} {fd : FuncData} {N ps : List Str} {k : Nat} {g : Sd} (Fn : Fun K x qual st f fd) (S : FnScope N ps (defScope st)) (hN : 0 < N.length)
    (hbody : ∀ (cdv : Value) (A : Around) (outer : List PySem.Env) (s : Shared) (H : Hp) (E : XK), Room k (A.deeper (envOfC qual (defScope st) s.heap.objs.size f cdv)) → DSs (cxOf CX0 P w K mg base N qual (defScope st) f cdv A outer s H E).nox (defBody st) g) :
    FnOk P w K mg base CX0 (k + 1) f fd ps (spIO ⟨K, P, w⟩ ps.length (runIO N.length g)) := by
  refine Fn.ok S (fun vs H Q E h => h.1) fun cdv A outer s H vs Q E hr h => ⟨_, hbody cdv A outer s H E hr, ?_⟩
  obtain ⟨_, F, a, ws, d, ds, r, d', rfl, sf, o, hd, ef, k⟩ := h
  obtain ⟨⟨fl, ρ'⟩, e1, e2⟩ := bind_some ef
  have hs0 : (L2.start N (.ref a :: ws))[0]? = some (some (.ref a)) := rfl
  have hst : St (Kx.mk K P w) F H (L2.start N (.ref a :: ws)) (envIO N.length d ds) := by
    refine ⟨sf, by simp [envIO, L2.start, vals, da_len hd], fun i c h => ?_, fun i j f g d e b h1 h2 _ _ => ?_⟩
    · rcases io_get h with ⟨rfl, rfl⟩ | ⟨j, e, rfl, h1, rfl⟩
      · exact ⟨a, hs0, o⟩
      · obtain ⟨v, e3, rv⟩ := da_at hd h1
        exact ⟨v, start_get (vs := .ref a :: ws) (i := j + 1) e3, rv⟩
    · rcases io_get h1 with ⟨rfl, _⟩ | ⟨_, _, _, _, z⟩
      · rcases io_get h2 with ⟨rfl, _⟩ | ⟨_, _, _, _, z⟩
        · rfl
        · cases z
      · cases z
  refine ⟨F, envIO N.length d ds, fl, ρ', hst, e1, fun σ' F' H' p s' => ?_⟩
  have own1 : ∀ b, Owns (L2.start N (.ref a :: ws)) (envIO N.length d ds) b → b = a := fun b z => by
    obtain ⟨i, f, e, h1, h2⟩ := z
    rcases io_get h1 with ⟨rfl, _⟩ | ⟨_, _, _, _, z⟩
    · rw [hs0] at h2
      cases h2
      rfl
    · cases z
  obtain ⟨f1, d1, f2⟩ := p.fix 0 d rfl
  have f3 : ρ'[0]? = some (some (.own true d1)) := f2
  have o' : OwnAt (Kx.mk K P w) F' H' a d1 := by
    obtain ⟨b, z1, z2⟩ := s'.cell 0 _ f3
    rw [f1, hs0] at z1
    cases z1
    exact z2
  have kp : ∀ b u, H b = some u → b ≠ a → H' b = some u ∧ F' b = F b := fun b u h n => p.keep b u h fun z => n (own1 b z)
  have e3 : (endV (fl, ρ')).bind (fun r => some (r, d1)) = some (r, d') := by
    have e4 : endIO (fl, ρ') = some (r, d') := e2
    unfold endIO at e4
    rw [show (fl, ρ').2[0]? = some (some (.own true d1)) from f3] at e4
    exact e4
  cases fl with
  | nx =>
    cases e3
    exact k .non F' H' p.ff s'.sub kp o' .non
  | ret d =>
    cases e3
    exact fun v rv => k v F' H' p.ff s'.sub kp o' rv
  | rof d => cases e3
  | brk => cases e3
  | cnt => cases e3
/-- the law -/
def spLaw (K : PySem.W.Frag) : Sp := fun vs H Q _ => ∃ (a : Addr) (ns : List Int), vs = [.ref a] ∧ SqL K H a (ns.map V.int) ∧ ns.length ≤ 63 ∧ ∀ H', Q (.bl true) H'
theorem fn_law {k : Nat} {f : Addr} {fd : FuncData} {ps : List Str} {g : List D → Option D} (G : FnOk P w K mg base CX0 k f fd ps (spV ⟨K, P, w⟩ 1 g)) (hg : ∀ ns : List Int, ns.length ≤ 63 → g [.list (ns.map PyData.int)] = some (.bool true)) : FnOk P w K mg base CX0 k f fd ps (spLaw K) :=
  G.imp fun vs H Q E h => by
    obtain ⟨a, ns, rfl, hs, hl, q⟩ := h
    exact ⟨rfl, H, _, _, Same.refl H, .cons (.lst hs (da_ints ns)) .nil, hg ns hl, fun v F' H' _ rv => by
      cases rv
      exact q H'⟩
end

/-! ### names that are looked at: a list of one's own stays one's own -/
def peek (ρ : Env) (i : Nat) : Option D := match ρ[i]? with
  | some (some (.val d)) => some d
  | some (some (.own _ d)) => some d
  | _ => none
def flatD : D → Bool
  | .none => true
  | .bool _ => true
  | .int _ => true
  | .str _ => true
  | _ => false
def gPk (i : Nat) (f : List D → Option D) : Md D := fun ρ => (peek ρ i).bind fun d => (f [d]).bind fun r => if flatD r = true then some (r, ρ) else none
theorem flat_dp {K : Kx} {F F' : Hp} {v : V} {d : D} (h : Rp K F v d) (fl : flatD d = true) : Rp K F' v d := by
  cases h with
  | dic _ _ => cases fl
  | dicN _ _ => cases fl
  | non => exact .non
  | bl b => exact .bl b
  | int i => exact .int i
  | str x => exact .str x
  | lst _ _ => cases fl
  | tup _ _ => cases fl
theorem peek_dp {K : Kx} {F H : Hp} {σ : L2.St} {ρ : Env} {i : Nat} {d : D} (s : St K F H σ ρ) (h : peek ρ i = some d) : ∃ v, σ[i]? = some (some v) ∧ Rp K H v d := by
  unfold peek at h
  split at h
  · rename_i d' e
    cases h
    obtain ⟨v, e1, r⟩ := st_val s e
    exact ⟨v, e1, dp_mono s.sub _ _ r⟩
  · rename_i f d' e
    cases h
    obtain ⟨a, e1, o, _⟩ := st_owned s e
    obtain ⟨f0, o⟩ := o
    rcases o with ⟨xs, ds, rfl, hx, r⟩ | ⟨xs, es, rfl, hx, r⟩
    · exact ⟨.ref a, e1, .lst (SqL.of hx) (dpAll_mono s.sub _ _ r)⟩
    · exact ⟨.ref a, e1, .dicN hx (dpN_mono s.sub _ _ r)⟩
  · cases h
section
variable {X : Cx} {e a : Expr} {pos p py : Pos} {x y : Str}
theorem de_pkB (i : Nat) {id : String} {f : List D → Option D} (hc : CallR X (.builtin id) (rPn (cxK X) f)) (hg : Gl X x) (hm : X.mg x = none) (hv : bootBuiltins x = some (.builtin id)) (hN : X.N[i]? = some y) (hy : Vis X.env.scope y) (hn : x ≠ "__name__" := by decide) (hdb : (x == ("__debug__" : Str)) = false := by decide)
    (hdy : (y == ("__debug__" : Str)) = false := by decide) (hcd : (y == ("__classdict__" : Str)) = false := by decide) (he : starEach [.Name y py] X.env = (false, eval (.Name y py) X.env) :: starEach [] X.env := by rfl) (hpl : (backTo pos (starEach [] X.env)).any (·.1) = false := by rfl) : DE X (.Call (.Name x p) [.Name y py] [] pos) (gPk i f) :=
  pe_imp (pe_callB hc hg hm hv (pa_cons (pe_var hN hy hdy hcd) pa_nil he) hn hdb he hpl) fun σ H Q q => by
    obtain ⟨F, ρ, d, ρ', s, eg, k⟩ := q
    obtain ⟨d1, e1, eg1⟩ := bind_some eg
    obtain ⟨r, e2, eg2⟩ := bind_some eg1
    split at eg2
    · rename_i fl
      cases eg2
      obtain ⟨v, ev, rv⟩ := peek_dp s e1
      refine ⟨v, ev, H, [d1], _, Same.refl H, .cons rv .nil, e2, fun u F' H' gr ru => ?_⟩
      have gr2 : Grow F H F H' := ⟨Same.refl F, gr.hh, s.sub.trans gr.hh, fun _ _ _ => rfl⟩
      exact k u F H' (gr2.stp σ ρ) (s.grow gr2) (flat_dp ru fl)
    · cases eg2
def gIxB (i : Nat) (gi : Md D) : Md D := fun ρ => match ρ[i]? with
  | some (some (.val d)) => (gi ρ).bind fun p => (ixD d p.1).bind fun r => some (r, p.2)
  | some (some (.own _ _)) => (gi ρ).bind fun p => match p.2[i]? with
    | some (some (.own _ d)) => (ixD d p.1).bind fun r => some (r, p.2)
    | _ => none
  | _ => none
theorem de_ixB (i : Nat) {gi : Md D} (hN : X.N[i]? = some y) (hy : Vis X.env.scope y) (hi : DE X a gi) (hs : PlainIx a) (hdy : (y == ("__debug__" : Str)) = false := by decide) (hcd : (y == ("__classdict__" : Str)) = false := by decide) : DE X (.Subscript (.Name y py) a pos) (gIxB i gi) :=
  pe_imp (pe_ix (ix_list.or ix_D) (pe_var hN hy hdy hcd) hi hs) fun σ H Q q => by
    obtain ⟨F, ρ, d, ρ', s, eg, k⟩ := q
    unfold gIxB at eg
    split at eg
    · rename_i d0 h0
      obtain ⟨⟨di, ρ1⟩, e1, eg1⟩ := bind_some eg
      obtain ⟨r, e2, eg2⟩ := bind_some eg1
      cases eg2
      obtain ⟨v, ev, rv⟩ := st_val s h0
      exact ⟨v, ev, F, ρ, di, _, s, e1, fun u F1 H1 p1 s1 r1 => .inr ⟨F1, d0, di, _, s1.sub, dp_mono p1.ff _ _ rv, r1, e2, fun z F2 H2 gr rz => k z F2 H2 (p1.trans (gr.stp σ _)) (s1.grow gr) rz⟩⟩
    · rename_i b0 d0 h0
      obtain ⟨a0, ea, o0, _⟩ := st_owned s h0
      obtain ⟨⟨di, ρ1⟩, e1, eg1⟩ := bind_some eg
      simp only at eg1
      split at eg1
      · rename_i b1 d1 h1
        obtain ⟨r, e2, eg2⟩ := bind_some eg1
        cases eg2
        refine ⟨.ref a0, ea, F, ρ, di, _, s, e1, fun u F1 H1 p1 s1 r1 => .inl ?_⟩
        obtain ⟨a1, ea1, o1, _⟩ := st_owned s1 h1
        rw [ea] at ea1
        cases ea1
        obtain ⟨f1, o1⟩ := o1
        rcases o1 with ⟨xs, ds, rfl, hx, rx⟩ | ⟨xs, es, rfl, _⟩
        case inr => cases di <;> cases e2
        cases di with
        | int z =>
          obtain ⟨w, ew, rw'⟩ := da_ix rx e2
          cases r1
          exact ⟨a0, xs, z, w, rfl, rfl, SqL.of hx, ixA_at ew, k w F1 H1 p1 s1 rw'⟩
        | none => cases e2
        | bool _ => cases e2
        | str _ => cases e2
        | list _ => cases e2
        | tuple _ => cases e2
        | dict _ => cases e2
      · cases eg1
    · cases eg
/-! in, not in -/
def inT (d : D) : D → Option Bool
  | .list ds => if SeqAt.shaped d = true ∧ SeqAt.shaped (.list ds) = true then some (ds.any fun z => PyData.eqv z d) else none
  | .tuple ds => if flatD d = true ∧ ds.all flatD = true then some (ds.any fun z => PyData.eqv z d) else none
  | _ => none
def inD (d e : D) : Option D := (inT d e).bind fun b => some (.bool b)
def ninD (d e : D) : Option D := (inT d e).bind fun b => some (.bool !b)
theorem flat_V {K : Kx} {H : Hp} {v : V} {d : D} (h : Rp K H v d) (fl : flatD d = true) : flatV v = true := by
  cases h with
  | non => rfl
  | bl b => rfl
  | int i => rfl
  | str x => rfl
  | lst _ _ => cases fl
  | tup _ _ => cases fl
  | dic _ _ => cases fl
  | dicN _ _ => cases fl
theorem eq_V {K : Kx} {H : Hp} {v w : V} {d e : D} (h : Rp K H v d) (h2 : Rp K H w e) (f1 : flatD d = true) (f2 : flatD e = true) : eqV v w = PyData.eqv d e := by
  cases h <;> (try cases f1) <;> cases h2 <;> (try cases f2) <;> simp [eqV, PyData.eqv]
theorem in_V {K : Kx} {H : Hp} {v : V} {d : D} (h : Rp K H v d) (f1 : flatD d = true) : ∀ {ds : List D} {vs : List V}, RpAll K H vs ds → ds.all flatD = true → vs.all flatV = true ∧ inV v vs = ds.any fun z => PyData.eqv z d
  | _, _, .nil, _ => ⟨rfl, rfl⟩
  | _, _, .cons r rs, f2 => by
    rw [List.all_cons, Bool.and_eq_true] at f2
    obtain ⟨h1, h2⟩ := in_V h f1 rs f2.2
    refine ⟨by rw [List.all_cons, flat_V r f2.1, h1]; rfl, ?_⟩
    unfold inV at h2 ⊢
    rw [List.any_cons, List.any_cons, h2, eq_V r h f2.1 f1]
theorem in_any (hu : X.A.units + 65 < cLine) {v w : V} {H : Hp} {Q : VK} {d e : D} {b : Bool} (hd : Rp (cxK X) H v d) (he : Rp (cxK X) H w e) (h : inT d e = some b) (q : Q (.bl b) H) : rInD (cxK X) v w H Q ∨ rIn (cxK X) false v w H Q := by
  unfold inT at h
  split at h
  · split at h
    · rename_i hs
      cases h
      exact .inl ⟨d, _, rp_dp hd (SeqAt.canLay_of_shaped hs.1), rp_dp he (SeqAt.canLay_of_shaped hs.2), hs.1, hs.2, q⟩
    · cases h
  · split at h
    · rename_i hs
      cases h
      cases he with
      | @tup a vs _ h1 d1 =>
        obtain ⟨z1, z2⟩ := in_V hd hs.1 d1 hs.2
        exact .inr ⟨a, vs, rfl, .inr h1, flat_V hd hs.1, z1, by rw [z2]; exact q⟩
    · cases h
  · cases h
theorem nin_any (hu : X.A.units + 65 < cLine) {v w : V} {H : Hp} {Q : VK} {d e : D} {b : Bool} (hd : Rp (cxK X) H v d) (he : Rp (cxK X) H w e) (h : inT d e = some b) (q : Q (.bl !b) H) : rNotInD (cxK X) v w H Q ∨ rIn (cxK X) true v w H Q := by
  unfold inT at h
  split at h
  · split at h
    · rename_i hs
      cases h
      exact .inl ⟨d, _, rp_dp hd (SeqAt.canLay_of_shaped hs.1), rp_dp he (SeqAt.canLay_of_shaped hs.2), hs.1, hs.2, q⟩
    · cases h
  · split at h
    · rename_i hs
      cases h
      cases he with
      | @tup a vs _ h1 d1 =>
        obtain ⟨z1, z2⟩ := in_V hd hs.1 d1 hs.2
        exact .inr ⟨a, vs, rfl, .inr h1, flat_V hd hs.1, z1, by rw [z2]; exact q⟩
    · cases h
  · cases h
theorem op_inD' (hu : X.A.units + 65 < cLine) : OpR X (compareOp .In) (rP2 (cxK X) inD) := by
  intro pins s σ H v w t u Q I rx ry h
  obtain ⟨F, d, e, r, sf, hd, he, ef, k⟩ := h
  obtain ⟨b, e1, e2⟩ := bind_some ef
  cases e2
  exact ((op_inD hu).or op_in_seq) pins s σ H v w t u Q I rx ry (in_any hu (dp_mono sf _ _ hd) (dp_mono sf _ _ he) e1 (k _ F H (Grow.refl sf) (.bl _)))
theorem op_ninD' (hu : X.A.units + 65 < cLine) : OpR X (compareOp .NotIn) (rP2 (cxK X) ninD) := by
  intro pins s σ H v w t u Q I rx ry h
  obtain ⟨F, d, e, r, sf, hd, he, ef, k⟩ := h
  obtain ⟨b, e1, e2⟩ := bind_some ef
  cases e2
  exact ((op_notInD hu).or op_notIn_seq) pins s σ H v w t u Q I rx ry (nin_any hu (dp_mono sf _ _ hd) (dp_mono sf _ _ he) e1 (k _ F H (Grow.refl sf) (.bl _)))
def gInB (neg : Bool) (i : Nat) (g : Md D) : Md D := fun ρ => (g ρ).bind fun p => (peek p.2 i).bind fun e => (inT p.1 e).bind fun b => some (.bool (if neg = true then !b else b), p.2)
theorem de_inB (i : Nat) {g : Md D} (hu : X.A.units + 65 < cLine) (hN : X.N[i]? = some y) (hy : Vis X.env.scope y) (ha : DE X a g) (hdy : (y == ("__debug__" : Str)) = false := by decide) (hcd : (y == ("__classdict__" : Str)) = false := by decide) (hm : behindInMarks .In (.Name y py) = false := by rfl) : DE X (.Compare a [.In] [.Name y py] pos) (gInB false i g) :=
  pe_imp (pe_cmpR ((op_inD hu).or op_in_seq) ha (pe_var hN hy hdy hcd) hm) fun σ H Q q => by
    obtain ⟨F, ρ, d, ρ', s, eg, k⟩ := q
    obtain ⟨⟨d1, ρ1⟩, e1, eg1⟩ := bind_some eg
    obtain ⟨e, e2, eg2⟩ := bind_some eg1
    obtain ⟨b, e3, eg3⟩ := bind_some eg2
    cases eg3
    refine ⟨F, ρ, d1, _, s, e1, fun v F1 H1 p1 s1 r1 => ?_⟩
    obtain ⟨w, ew, rw'⟩ := peek_dp s1 e2
    exact ⟨w, ew, in_any hu (dp_mono s1.sub _ _ r1) rw' e3 (k _ F1 H1 p1 s1 (.bl _))⟩
theorem de_ninB (i : Nat) {g : Md D} (hu : X.A.units + 65 < cLine) (hN : X.N[i]? = some y) (hy : Vis X.env.scope y) (ha : DE X a g) (hdy : (y == ("__debug__" : Str)) = false := by decide) (hcd : (y == ("__classdict__" : Str)) = false := by decide) (hm : behindInMarks .NotIn (.Name y py) = false := by rfl) : DE X (.Compare a [.NotIn] [.Name y py] pos) (gInB true i g) :=
  pe_imp (pe_cmpR ((op_notInD hu).or op_notIn_seq) ha (pe_var hN hy hdy hcd) hm) fun σ H Q q => by
    obtain ⟨F, ρ, d, ρ', s, eg, k⟩ := q
    obtain ⟨⟨d1, ρ1⟩, e1, eg1⟩ := bind_some eg
    obtain ⟨e, e2, eg2⟩ := bind_some eg1
    obtain ⟨b, e3, eg3⟩ := bind_some eg2
    cases eg3
    refine ⟨F, ρ, d1, _, s, e1, fun v F1 H1 p1 s1 r1 => ?_⟩
    obtain ⟨w, ew, rw'⟩ := peek_dp s1 e2
    exact ⟨w, ew, nin_any hu (dp_mono s1.sub _ _ r1) rw' e3 (k _ F1 H1 p1 s1 (.bl _))⟩
/-! truth -/
def truT : D → Option Bool
  | .none => some false
  | .bool b => some b
  | .int i => some (i != 0)
  | .str x => if x.length ≤ 16777216 then some ((x.length : Int) != 0) else none
  | .list ds => some (!ds.isEmpty)
  | .tuple ds => some (!ds.isEmpty)
  | _ => none
theorem da_emp {K : Kx} {H : Hp} {vs : List V} {ds : List D} (h : RpAll K H vs ds) : vs.isEmpty = ds.isEmpty := by
  cases h <;> rfl
theorem tru_dp {K : Kx} {H : Hp} {v : V} {d : D} {b : Bool} (h : Rp K H v d) (e : truT d = some b) : TruV K v H b := by
  cases h with
  | non =>
    cases e
    exact rfl
  | bl b =>
    cases e
    exact rfl
  | int i =>
    cases e
    exact rfl
  | str x =>
    have e1 : (if x.length ≤ 16777216 then some ((x.length : Int) != 0) else none) = some b := e
    by_cases hl : x.length ≤ 16777216
    · rw [if_pos hl] at e1
      cases e1
      exact ⟨by rw [line_eq]; exact hl, rfl⟩
    · rw [if_neg hl] at e1
      cases e1
  | lst h1 d1 =>
    cases e
    exact .inl ⟨_, h1, by rw [da_emp d1]⟩
  | tup h1 d1 =>
    cases e
    exact .inr (.inl ⟨_, h1, by rw [da_emp d1]⟩)
  | dic _ _ => cases e
  | dicN _ _ => cases e
def gTru (g : Md D) : Md Bool := fun ρ => (g ρ).bind fun p => (truT p.1).bind fun b => some (b, p.2)
def gTruB (i : Nat) : Md Bool := fun ρ => (peek ρ i).bind fun d => (truT d).bind fun b => some (b, ρ)
theorem dt_tru {g : Md D} (ha : DE X a g) (he : ∀ whole, isTrue a X.env whole = (do let v ← whole; standAt a.pos; holding [v] (truthy v)) := by intro _; rfl) : DT X a (gTru g) :=
  pt_imp (pt_truth ha he) fun σ H Q q => by
    obtain ⟨F, ρ, d, ρ', s, eg, k⟩ := q
    obtain ⟨⟨d1, ρ1⟩, e1, eg1⟩ := bind_some eg
    obtain ⟨b, e2, eg2⟩ := bind_some eg1
    cases eg2
    exact ⟨F, ρ, d1, _, s, e1, fun v F1 H1 p1 s1 r1 => ⟨_, tru_dp (dp_mono s1.sub _ _ r1) e2, k F1 H1 p1 s1⟩⟩
theorem dt_truB (i : Nat) (hN : X.N[i]? = some y) (hy : Vis X.env.scope y) (hdy : (y == ("__debug__" : Str)) = false := by decide) (hcd : (y == ("__classdict__" : Str)) = false := by decide) (he : ∀ whole, isTrue (.Name y py) X.env whole = (do let v ← whole; standAt (Expr.Name y py).pos; holding [v] (truthy v)) := by intro _; rfl) : DT X (.Name y py) (gTruB i) :=
  pt_imp (pt_truth (pe_var hN hy hdy hcd) he) fun σ H Q q => by
    obtain ⟨F, ρ, d, ρ', s, eg, k⟩ := q
    obtain ⟨d1, e1, eg1⟩ := bind_some eg
    obtain ⟨b, e2, eg2⟩ := bind_some eg1
    cases eg2
    obtain ⟨v, ev, rv⟩ := peek_dp s e1
    exact ⟨v, ev, _, tru_dp rv e2, k F H Stp.refl s⟩
/-! y = [..] where the comprehension runs in the frame -/
theorem dts_nil : PTs X [] (tDT (cxK X) gTrue) := ⟨fun pins s σ H Q I q => pts_nil.run pins s σ H Q I (by
  obtain ⟨F, ρ, d, ρ', st, eg, k⟩ := q
  cases eg
  exact k F H Stp.refl st)⟩
theorem dts_one {c : Expr} {g : Md Bool} (h : DT X c g) : PTs X [c] (tDT (cxK X) g) := pts_one h
theorem df_lc {e : Expr} {vs is : List Nat} {gi : Md (List D)} {gt : D → Env → Option Env} {gc : Md Bool} {ge : Md D} (h : PE X e (tLc (tDI (cxK X) gi) (tDG (cxK X) is gt) (tDT (cxK X) gc) (tD (cxK X) ge) vs)) (hv : ∀ j ∈ is, j ∈ vs := by decide) : DF X e (gLc vs gi gt gc ge) := pe_imp h fun _ _ _ q => lc_q hv q
theorem ds_lcO {st : Stmt} {i : Nat} {vs is : List Nat} {gi : Md (List D)} {gt : D → Env → Option Env} {gc : Md Bool} {ge : Md D} (h : PS X st (fun E σ H => tLc (tDI (cxK X) gi) (tDG (cxK X) is gt) (tDT (cxK X) gc) (tD (cxK X) ge) vs σ H fun v H1 => E.nx (σ.set i (some v)) H1)) (hv : ∀ j ∈ is, j ∈ vs := by decide) : DS X st (sOwn i (gLc vs gi gt gc ge)) :=
  ps_imp h fun E σ H q => by
    obtain ⟨F, ρ, f, ρ', s, eg, k⟩ := q
    obtain ⟨⟨d, ρ1⟩, e1, eg1⟩ := bind_some eg
    obtain ⟨r, e2, eg2⟩ := bind_some eg1
    cases eg2
    refine lc_q hv ⟨F, ρ, d, ρ1, s, e1, fun a F1 H1 p1 s1 o no hn => k _ F1 H1 (stp_set p1 e2 fun _ _ b _ z => ?_) (st_set s1 e2 ⟨a, rfl, o⟩ fun f _ b z1 z => ?_)⟩
    · cases z
      exact hn
    · cases z
      cases z1
      exact ⟨rfl, no⟩
end
end Dn
set_option maxHeartbeats 2000000
/-! short words for the printer -/
namespace Dn
open PySem PySem.Spec PyProof.Rows L2
section
variable {X : Cx} {e a : Expr} {pos p py : Pos} {x y : Str}
theorem dv (i : Nat) {x : Str} (hN : X.N[i]? = some x := by rfl) (hv : Vis X.env.scope x := by first | exact Or.inl rfl | exact Or.inr (Or.inl rfl) | exact Or.inr (Or.inr rfl)) (hd : (x == ("__debug__" : Str)) = false := by decide) (hcd : (x == ("__classdict__" : Str)) = false := by decide) : DE X (.Name x pos) (gVar i) := de_var i hN hv hd hcd
theorem dz (i : Nat) {x : Str} (hN : X.N[i]? = some x := by rfl) (hv : Vis X.env.scope x := by first | exact Or.inl rfl | exact Or.inr (Or.inl rfl) | exact Or.inr (Or.inr rfl)) (hd : (x == ("__debug__" : Str)) = false := by decide) (hcd : (x == ("__classdict__" : Str)) = false := by decide) : DE X (.Name x pos) (gFrz i) := de_frz i hN hv hd hcd
theorem in65 {k : Nat} {A : Around} (hr : Room k A) : A.units + 65 < cLine := by
  have := hr.un
  omega
theorem db_ix (i : Nat) {gi : Md D} (hi : DE X a gi) (hN : X.N[i]? = some y := by rfl) (hy : Vis X.env.scope y := by first | exact Or.inl rfl | exact Or.inr (Or.inl rfl) | exact Or.inr (Or.inr rfl)) (hs : PlainIx a := by intro _ _; rfl) (hdy : (y == ("__debug__" : Str)) = false := by decide) (hcd : (y == ("__classdict__" : Str)) = false := by decide) : DE X (.Subscript (.Name y py) a pos) (gIxB i gi) := de_ixB i hN hy hi hs hdy hcd
theorem db_tru (i : Nat) (hN : X.N[i]? = some y := by rfl) (hy : Vis X.env.scope y := by first | exact Or.inl rfl | exact Or.inr (Or.inl rfl) | exact Or.inr (Or.inr rfl)) (hdy : (y == ("__debug__" : Str)) = false := by decide) (hcd : (y == ("__classdict__" : Str)) = false := by decide) (he : ∀ whole, isTrue (.Name y py) X.env whole = (do let v ← whole; standAt (Expr.Name y py).pos; holding [v] (truthy v)) := by intro _; rfl) : DT X (.Name y py) (gTruB i) := dt_truB i hN hy hdy hcd he
theorem db_in (i : Nat) {g : Md D} (hu : X.A.units + 65 < cLine) (ha : DE X a g) (hN : X.N[i]? = some y := by rfl) (hy : Vis X.env.scope y := by first | exact Or.inl rfl | exact Or.inr (Or.inl rfl) | exact Or.inr (Or.inr rfl)) (hdy : (y == ("__debug__" : Str)) = false := by decide) (hcd : (y == ("__classdict__" : Str)) = false := by decide) (hm : behindInMarks .In (.Name y py) = false := by rfl) : DE X (.Compare a [.In] [.Name y py] pos) (gInB false i g) := de_inB i hu hN hy ha hdy hcd hm
theorem db_nin (i : Nat) {g : Md D} (hu : X.A.units + 65 < cLine) (ha : DE X a g) (hN : X.N[i]? = some y := by rfl) (hy : Vis X.env.scope y := by first | exact Or.inl rfl | exact Or.inr (Or.inl rfl) | exact Or.inr (Or.inr rfl)) (hdy : (y == ("__debug__" : Str)) = false := by decide) (hcd : (y == ("__classdict__" : Str)) = false := by decide) (hm : behindInMarks .NotIn (.Name y py) = false := by rfl) : DE X (.Compare a [.NotIn] [.Name y py] pos) (gInB true i g) := de_ninB i hu hN hy ha hdy hcd hm
theorem db_call (i : Nat) {id : String} {f : List D → Option D} (hc : CallR X (.builtin id) (rPn (cxK X) f)) (hg : Gl X x) (hm : X.mg x = none) (hv : bootBuiltins x = some (.builtin id)) (hN : X.N[i]? = some y := by rfl) (hy : Vis X.env.scope y := by first | exact Or.inl rfl | exact Or.inr (Or.inl rfl) | exact Or.inr (Or.inr rfl)) (hn : x ≠ "__name__" := by decide) (hdb : (x == ("__debug__" : Str)) = false := by decide)
    (hdy : (y == ("__debug__" : Str)) = false := by decide) (hcd : (y == ("__classdict__" : Str)) = false := by decide) (he : starEach [.Name y py] X.env = (false, eval (.Name y py) X.env) :: starEach [] X.env := by rfl) (hpl : (backTo pos (starEach [] X.env)).any (·.1) = false := by rfl) : DE X (.Call (.Name x p) [.Name y py] [] pos) (gPk i f) := de_pkB i hc hg hm hv hN hy hn hdb hdy hcd he hpl
theorem db_io (i : Nat) {k n : Nat} {f : Addr} {fd : FuncData} {ps : List Str} {es : List Expr} {g : D → List D → Option (D × D)} {gs : Md (List D)} (G : FnOk X.prog X.w (cxK X) X.mg X.base CX0 k f fd ps (spIO (cxK X) (n + 1) g)) (hr : Room k X.A) (hg : Gl X x) (hm : X.mg x = some (.ref f)) (hk : PySem.W.keepIn (cxK X) (.ref f) = true) (hb : Binds (cxK X) fd ps [])
    (ha : DA X es gs) (hlen : ∀ ρ ds ρ', gs ρ = some (ds, ρ') → ds.length = n) (hN : X.N[i]? = some y := by rfl) (hv : Vis X.env.scope y := by first | exact Or.inl rfl | exact Or.inr (Or.inl rfl) | exact Or.inr (Or.inr rfl))
    (hdb : (x == ("__debug__" : Str)) = false := by decide) (hdy : (y == ("__debug__" : Str)) = false := by decide) (hcd : (y == ("__classdict__" : Str)) = false := by decide) (he : starEach (.Name y py :: es) X.env = (false, eval (.Name y py) X.env) :: starEach es X.env := by rfl) (hpl : (backTo pos (starEach es X.env)).any (·.1) = false := by rfl) : DE X (.Call (.Name x p) (.Name y py :: es) [] pos) (gCallIO i g gs) := de_callIO i G hr hg hm hk hb hN hv ha hlen hdb hdy hcd he hpl
theorem db_setIx (i : Nat) {tpos : Pos} {gv gi : Md D} (he : DE X e gv) (hi : DE X a gi) (hN : X.N[i]? = some y := by rfl) (hv : Vis X.env.scope y := by first | exact Or.inl rfl | exact Or.inr (Or.inl rfl) | exact Or.inr (Or.inr rfl)) (hdy : (y == ("__debug__" : Str)) = false := by decide) (hcd : (y == ("__classdict__" : Str)) = false := by decide)
    (ha : ∀ v, assign (.Subscript (.Name y py) a tpos) X.env v = (do let ov ← holding [v] (eval (.Name y py) X.env); let iv ← holding [v, ov] (eval a X.env); standAt tpos; holding [v, ov, iv] (setItem ov iv v); release [v, ov, iv] []) := by intro _; rfl)
    (hs : swapsWithSole [.Subscript (.Name y py) a tpos] e pos.line X.env = pure false := by rfl) (hw : swappedStores [.Subscript (.Name y py) a tpos] e X.env = pure none := by rfl) : DS X (.Assign [.Subscript (.Name y py) a tpos] e pos) (sSetIx i gv gi) := ds_setIx i hN hv he hi hdy hcd ha hs hw
end
theorem bb_len : bootBuiltins "len" = some (.builtin "len") := by decide +kernel
theorem bb_abs : bootBuiltins "abs" = some (.builtin "abs") := by decide +kernel
theorem bb_max : bootBuiltins "max" = some (.builtin "max") := by decide +kernel
theorem bb_min : bootBuiltins "min" = some (.builtin "min") := by decide +kernel
theorem bb_ord : bootBuiltins "ord" = some (.builtin "ord") := by decide +kernel
theorem bt_int : bootBuiltins "int" = some (.type "int") := by decide +kernel
theorem bt_bool : bootBuiltins "bool" = some (.type "bool") := by decide +kernel
theorem bt_str : bootBuiltins "str" = some (.type "str") := by decide +kernel
theorem bt_list : bootBuiltins "list" = some (.type "list") := by decide +kernel
theorem bt_tuple : bootBuiltins "tuple" = some (.type "tuple") := by decide +kernel
end Dn
set_option maxHeartbeats 2000000
/-! names of the module, enumerate, texts multiplied, dicts shown -/
namespace Dn
open PySem PySem.Spec PyProof.Rows L2
section
variable {X : Cx} {tg e a b : Expr} {pos p py : Pos} {x y : Str}
theorem de_glob {n : Int} (hg : Gl X x) (h : ∃ t, X.mg x = some (.int n t)) (hd : (x == ("__debug__" : Str)) = false := by decide) : DE X (.Name x pos) (gC (.int n)) := by
  obtain ⟨t, ht⟩ := h
  exact de_const (t := tC .non) (v := .int n) (pe_glob hg ht ⟨t, rfl⟩ hd) fun _ => .int n

/-! ### a text so many times -/
def mulT : D → D → Option D
  | .str x, .int n => if 0 ≤ n ∧ n ≤ 1000 ∧ x.length ≤ 1000 then some (.str (Txt.mul x n)) else none
  | _, _ => none
theorem op_mulT : OpR X (binaryOp .Mult) (rP2 (cxK X) mulT) := by
  intro pins s σ H x y v u Q I rx ry h
  obtain ⟨F, d, e, r, sf, hd, he, ef, k⟩ := h
  unfold mulT at ef
  split at ef
  · split at ef
    · rename_i z n hl
      cases ef
      cases hd
      cases he
      obtain ⟨t, rfl⟩ := rx
      obtain ⟨t', rfl⟩ := ry
      obtain ⟨h0, h1, h2⟩ := hl
      refine SB.mul ⟨?_, fun h3 h4 h5 => ?_, fun h3 h4 => ?_⟩ fun t1 k1 => ⟨.str (Txt.mul z n), H, I.tok _, ⟨_, rfl⟩, k _ F H (Grow.refl sf) (.str _)⟩
      · rw [decide_eq_false (by omega), decide_eq_false (by omega)]
        rfl
      · have h6 : (1000 : Int) ≤ (2 ^ 63 - 1) / n := (Int.le_ediv_iff_mul_le (by omega)).mpr (by omega)
        omega
      · have h6 : z.length * n.toNat ≤ 1000 * 1000 := Nat.mul_le_mul h2 (by omega)
        refine decide_eq_false ?_
        rw [show sizeLine = 16777216 by decide]
        omega
    · cases ef
  · cases ef

/-! ### enumerate -/
def ItU (K : PySem.W.Frag) (a : Addr) : It :=
  ⟨fun i H => ∃ (xs : List V) (x : V), SqT K H a xs ∧ xs[i]? = some x, fun i H v H' => ∃ T x, v = .ref T ∧ H T = none ∧ H' = upd H T (.tup [.int (i : Nat), x]) ∧ ∀ xs, SqT K H a xs → xs[i]? = some x, fun i H => ∃ xs : List V, SqT K H a xs ∧ xs.length ≤ i⟩
theorem turn_enumT {P : Program} {w : World} {K : PySem.W.Frag} {elts : List Expr} {kk : Nat} {tpos : Pos} (a e it : Addr) (hai : a ≠ it) (hae : a ≠ e) :
    Turn P w K (.Tuple elts kk tpos) (ItU K a) [e, it] e (fun i h => (∃ old, IsEnum h e it ((i : Nat) : Int) old) ∧ h.IsTupleIter it a i ∧ e ≠ it) where
  mem := by simp
  obj := fun i h st b hb => by
    obtain ⟨⟨old, he⟩, ⟨o, ho, hc, hd⟩, _⟩ := st
    have e' : b = e ∨ b = it := by simpa using hb
    rcases e' with z | z
    · rw [z]; exact ⟨_, he, fun v q => nomatch q⟩
    · rw [z]; exact ⟨o, ho, fun v q => by rw [hd] at q; cases q⟩
  keep := fun i h h' st k => let ⟨⟨old, he⟩, hi, hne⟩ := st; ⟨⟨old, k e (by simp) _ he⟩, hi.at fun o q => k it (by simp) o q, hne⟩
  item := by
    intro X hP hw hK hc i pins s σ H E I hf st hg
    subst hP hw hK
    obtain ⟨⟨old, he⟩, hit, hne⟩ := st
    obtain ⟨xs, x, hq, hx⟩ := hg
    obtain ⟨its, rv, p, hz⟩ := I.tuple hq
    obtain ⟨u, hu, ru⟩ := rv.get hx
    have p' : s.heap.IsTuple a its.toArray := p
    have hel : e < s.heap.objs.size := Heap.lt_size he
    have hil : it < s.heap.objs.size := by obtain ⟨_, q, _⟩ := hit; exact Heap.lt_size q
    refine wpAny_pyNext_enum_itemD (fp := [it, a]) (Draws.tuple (A := X.A.in1) (I.ok.hd hc) it a hai its.toArray) he ⟨hit, p'⟩ (by have := (List.getElem?_eq_some_iff.mp hu).1; simpa using this) hne (by simp [hne, Ne.symm hae]) fun x' h' tk hP ho st' hT hsz hk => ?_
    have ex : x' = u := by
      have h1 : its.toArray[i]? = some u := by simpa using hu
      exact Option.some.inj (hP.symm.trans h1)
    subst ex
    obtain ⟨hit', _⟩ := st'
    refine ⟨_, rfl, wpAny_letOwnedTupleGo_enum (s := { s with heap := h', toks := tk + 1 }) ho fun h'' he' sb => ?_⟩
    have hT2 : h''.get? s.heap.objs.size = some { cls := .type "tuple", data := .seq #[.int i tk, x'] } := (sb.2 _ (Nat.ne_of_gt hel)).trans hT
    have new : ObjOk X.prog X.w (upd H s.heap.objs.size (.tup [.int (i : Nat), x])) h'' s.heap.objs.size (.tup [.int (i : Nat), x]) :=
      ⟨by show 2 ≤ sizeLine; decide, [.int i tk, x'], .cons ⟨_, rfl⟩ (.cons ru .nil), ⟨_, hT2, rfl, _, rfl⟩⟩
    have I1 : Inv X pins σ (upd H s.heap.objs.size (.tup [.int (i : Nat), x])) { s with heap := h'', toks := tk + 1 } :=
      I.turnedNew (ch := [e, it]) (fun b ob hb q => (sb.2 b (fun z => hb (by simp [z]))).trans (hk b ob (fun z => hb (by simp [z])) (fun z => hb (by simp [z])) q)) hf (Nat.le_refl _) new
    refine ⟨.ref s.heap.objs.size, _, I1, rfl, ⟨_, x, rfl, I.hok.fresh (Nat.le_refl _), rfl, fun ys hy => by rw [I.tuple_inj hy hq]; exact hx⟩, ⟨⟨x', ?_⟩, hit'.at fun o q => (sb.2 it (Ne.symm hne)).trans q, hne⟩, fun b hb => ?_⟩
    · have e1 : ((i + 1 : Nat) : Int) = (i : Int) + 1 := by omega
      rw [e1]; exact he'
    · have hb' : b < s.heap.objs.size := by
        have e' : b = e ∨ b = it := by simpa using hb
        rcases e' with z | z
        · rw [z]; exact hel
        · rw [z]; exact hil
      rw [upd_ne (Nat.ne_of_lt hb')]
      exact (hf b hb).1
  done := by
    intro X hP hw hK hc i pins s σ H E I hf st hg
    subst hP hw hK
    obtain ⟨⟨old, he⟩, hit, hne⟩ := st
    obtain ⟨xs, hq, hx⟩ := hg
    obtain ⟨its, rv, p, hz⟩ := I.tuple hq
    obtain ⟨f0, f1, f2, f3, f4, f5⟩ := hf it (by simp)
    have hl := rv.length
    have p' : s.heap.IsTuple a its.toArray := p
    have D : Draws X.prog X.w X.A.in1 it [it, a] i (fun _ _ => True) (fun j h => j = i ∧ h.IsTupleIter it a i ∧ h.IsTuple a its.toArray) :=
      { live := fun _ _ st => let ⟨o, ho, _⟩ := st.2.1; ⟨o, ho⟩
        frame := fun _ _ _ st hk => ⟨st.1, st.2.1.at fun o e => hk it (by simp) o e, st.2.2.at fun o e => hk a (by simp) o e⟩
        item := fun j s Q E hi st hQ => absurd st.1 (by omega)
        done := fun s Q E st hE => wpAny_nextOf_tuple_end (I.ok.hd hc) st.2.1 st.2.2 (by simp; omega) hE }
    exact wpAny_pyNext_enum_endD (n := i) D he ⟨rfl, hit, p'⟩ fun h' eb => ⟨rfl, I.turned (t' := s.toks) (fun b o hb q => eb b o hb q) f0 f1 f3 f4 f5⟩
  self := fun A i s Q E st h => let ⟨⟨_, he⟩, _⟩ := st; wpAny_pyIter_enum he h
section
variable {prog : Program} {w : World} {A : Around} {E : Value → Shared → Prop} {s : Shared}
theorem meets_enumerate_newT (l : Addr) (items : Array Value) :
    Meets (Builtin.«enumerate.__new__» ⟨[.type "enumerate", .ref l], []⟩) (fun _ R s => s.heap.IsTuple l items ∧
      R (.ok (.ret (.ref (s.heap.push { cls := .type "tuple_iterator", data := .fields #[.ref l, .int 0 0] }).objs.size)))
        { s with heap := (s.heap.push { cls := .type "tuple_iterator", data := .fields #[.ref l, .int 0 0] }).push { cls := .type "enumerate", data := .fields #[.none, .bool false, .ref s.heap.objs.size, rawInt 0, .none, .none] } }) :=
  .of_wp fun prog w A R s h => by
    obtain ⟨hp, g, d, tk, os⟩ := s; obtain ⟨hL, h⟩ := h
    have hsub := sub_enumerate
    obtain ⟨o, hl, hc, hd⟩ := id hL
    wp_walk using AutoSeq1.wpAny_loadPart' hl
    refine wpAny_stack_any fun st => wpAny_pure ?_
    split
    · rename_i c _ _ _ _ _
      cases (c == Value.type "enumerate")
      · wp_walk using AutoSeq1.wpAny_loadPart' hl, wpAny_pyIter_tuple hL
        exact ⟨_, rfl, h⟩
      · wp_walk using AutoSeq1.wpAny_loadPart' hl, wpAny_pyIter_tuple hL
        exact ⟨_, rfl, h⟩
    · wp_walk using AutoSeq1.wpAny_loadPart' hl, wpAny_pyIter_tuple hL
      exact ⟨_, rfl, h⟩
theorem call_enumerate_tuple {l : Addr} {items : Array Value} {Q : Value → Shared → Prop} (hL : s.heap.IsTuple l items)
    (h : ∀ h', IsEnum h' (s.heap.objs.size + 1) s.heap.objs.size 0 .none → h'.IsTupleIter s.heap.objs.size l 0 → h'.objs.size = s.heap.objs.size + 2 →
      (∀ b o, s.heap.get? b = some o → h'.get? b = some o) → Q (.ref (s.heap.objs.size + 1)) { s with heap := h' }) :
    wpAny (model prog w) A (call (.type "enumerate") [.ref l]) Q E s := by
  refine callType_new PySem.F.called_enumerate (by decide) (PySem.F.typeCall_enumerate_1 _) (PySem.F.newCall_enumerate_1 _) (fun obj => PySem.F.args_object_init_2 obj _) PySem.F.entry_enumerate_new
    (meets_enumerate_newT l items) ⟨hL, ?_⟩
  have hz : (s.heap.push { cls := .type "tuple_iterator", data := .fields #[.ref l, .int 0 0] }).objs.size = s.heap.objs.size + 1 := Heap.size_push ..
  show _ ∧ _
  rw [hz]
  have he : IsEnum ((s.heap.push { cls := .type "tuple_iterator", data := .fields #[.ref l, .int 0 0] }).push
      { cls := .type "enumerate", data := .fields #[.none, .bool false, .ref s.heap.objs.size, rawInt 0, .none, .none] }) (s.heap.objs.size + 1) s.heap.objs.size 0 .none := by
    have := Heap.get?_push_size (s.heap.push { cls := .type "tuple_iterator", data := .fields #[.ref l, .int 0 0] })
      (o := { cls := .type "enumerate", data := .fields #[.none, .bool false, .ref s.heap.objs.size, rawInt 0, .none, .none] }) rfl
    rw [hz] at this; exact this
  refine ⟨⟨_, he, rfl⟩, h _ he ⟨_, Heap.get?_push_of_some _ (Heap.get?_push_size _ rfl), rfl, rfl⟩ (by rw [Heap.size_push, hz]) fun b o x => Heap.get?_push_of_some _ (Heap.get?_push_of_some _ x)⟩
end
def iEnumA (K : PySem.W.Frag) (ta : TA) : TI := fun σ H R => ta σ H fun vs H1 => ∃ a xs, vs = [.ref a] ∧ ((SqL K H1 a xs ∧ R (Ite K a) H1) ∨ (SqT K H1 a xs ∧ R (ItU K a) H1))
theorem pi_enumA {ta : TA} {tpos : Pos} {elts : List Expr} {kk : Nat} (hg : Gl X "enumerate") (hm : X.mg "enumerate" = none) (ha : PA X [e] ta) (hs : starEach [e] X.env = [(false, eval e X.env)] := by rfl) :
    PI X (.Tuple elts kk tpos) (.Call (.Name "enumerate" p) [e] [] pos) (iEnumA X.K ta) := by
  refine ⟨fun pins s σ H R I h => ?_⟩
  refine Call_ (ld_blt I hg hm boot_enumerate (PyProof.Rows.callWith_type1 (thn (ha.run pos pins s σ H _ I h) fun us s1 ⟨vs, H1, I1, r1, q1⟩ => ?_) hs rfl))
  obtain ⟨a, xs, ex, q⟩ := q1
  subst ex
  cases r1 with
  | cons r rr =>
    cases rr
    cases r
    have fps : ∀ b ∈ [s1.heap.objs.size + 1, s1.heap.objs.size], FpOk X pins H1 b := fun b hb => by
      have e' : b = s1.heap.objs.size + 1 ∨ b = s1.heap.objs.size := by simpa using hb
      have hle : s1.heap.objs.size ≤ b := by
        rcases e' with z | z
        · rw [z]; exact Nat.le_add_right _ _
        · rw [z]; exact Nat.le_refl _
      exact I1.fpOk hle (I1.hok.fresh hle)
    rcases q with ⟨hq, q⟩ | ⟨hq, q⟩
    · obtain ⟨its, rv, p', hz⟩ := I1.list hq
      refine call_enumerate_list p'.isList fun h' he hit hsz hk => wpAny_pyIter_enum he ?_
      have I2 : Inv X pins σ H1 { s1 with heap := h' } := I1.kept (t' := s1.toks) hk
      exact ⟨s1.heap.objs.size + 1, [s1.heap.objs.size + 1, s1.heap.objs.size], _, _, H1, rfl, I2, turn_enum a (s1.heap.objs.size + 1) s1.heap.objs.size, ⟨⟨.none, he⟩, hit, Nat.succ_ne_self _⟩, fps, q⟩
    · obtain ⟨its, rv, p', hz⟩ := I1.tuple hq
      have p2 : s1.heap.IsTuple a its.toArray := p'
      have hal : a < s1.heap.objs.size := by obtain ⟨_, q, _⟩ := p2; exact Heap.lt_size q
      refine call_enumerate_tuple p2 fun h' he hit hsz hk => wpAny_pyIter_enum he ?_
      have I2 : Inv X pins σ H1 { s1 with heap := h' } := I1.kept (t' := s1.toks) hk
      exact ⟨s1.heap.objs.size + 1, [s1.heap.objs.size + 1, s1.heap.objs.size], _, _, H1, rfl, I2, turn_enumT a (s1.heap.objs.size + 1) s1.heap.objs.size (Nat.ne_of_lt hal) (Nat.ne_of_lt (Nat.lt_succ_of_lt hal)), ⟨⟨.none, he⟩, hit, Nat.succ_ne_self _⟩, fps, q⟩
def enumL : Nat → List D → List D
  | _, [] => []
  | i, d :: ds => .tuple [.int i, d] :: enumL (i + 1) ds
theorem enumL_len : ∀ (i : Nat) (ds : List D), (enumL i ds).length = ds.length
  | _, [] => rfl
  | i, d :: ds => congrArg (· + 1) (enumL_len (i + 1) ds)
theorem enumL_get : ∀ (i j : Nat) (ds : List D), (enumL i ds)[j]? = ds[j]?.map fun d => .tuple [.int (i + j : Nat), d]
  | _, _, [] => rfl
  | i, 0, d :: ds => rfl
  | i, j + 1, d :: ds => by
    have e := enumL_get (i + 1) j ds
    have e2 : i + 1 + j = i + (j + 1) := by omega
    rw [e2] at e
    exact e
def enumOf (ds : List D) : Option (List D) := match ds with
  | [.list xs] => some (enumL 0 xs)
  | [.tuple xs] => some (enumL 0 xs)
  | _ => none
def gEnum (gs : Md (List D)) : Md (List D) := fun ρ => (gs ρ).bind fun p => (enumOf p.1).bind fun ds => some (ds, p.2)
theorem it_enum {K : Kx} {F : Hp} {a : Addr} {vs : List V} {ds : List D} (h : SqL K F a vs) (r : RpAll K F vs ds) : ItOk K F (Ite K a) (enumL 0 ds) := fun F1 H s1 s2 i => by
  have hH := (s1.trans s2).seq h
  refine ⟨fun d e => ?_, fun hl => ⟨vs, hH, by rw [da_len r, ← enumL_len 0]; exact hl⟩⟩
  rw [enumL_get] at e
  obtain ⟨d0, e0, ed⟩ := Option.map_eq_some_iff.mp e
  subst ed
  obtain ⟨v, e1, rv⟩ := da_at r e0
  refine ⟨⟨vs, v, hH, e1⟩, fun y H' hy => ?_⟩
  obtain ⟨T, x, rfl, hT, rfl, hy⟩ := hy
  have e2 := (hy vs hH).symm.trans e1
  cases e2
  have gr : Grow F1 H (upd F1 T (.tup [.int (i : Nat), v])) (upd H T (.tup [.int (i : Nat), v])) := Grow.val s2 hT
  refine ⟨_, gr, .tup (.inl (.inl upd_same)) (.cons ?_ (.cons (dp_mono (s1.trans gr.ff) _ _ rv) .nil))⟩
  rw [Nat.zero_add]
  exact .int _
theorem it_enumT {K : Kx} {F : Hp} {a : Addr} {vs : List V} {ds : List D} (h : SqT K F a vs) (r : RpAll K F vs ds) : ItOk K F (ItU K a) (enumL 0 ds) := fun F1 H s1 s2 i => by
  have hH := seqT_same (s1.trans s2) h
  refine ⟨fun d e => ?_, fun hl => ⟨vs, hH, by rw [da_len r, ← enumL_len 0]; exact hl⟩⟩
  rw [enumL_get] at e
  obtain ⟨d0, e0, ed⟩ := Option.map_eq_some_iff.mp e
  subst ed
  obtain ⟨v, e1, rv⟩ := da_at r e0
  refine ⟨⟨vs, v, hH, e1⟩, fun y H' hy => ?_⟩
  obtain ⟨T, x, rfl, hT, rfl, hy⟩ := hy
  have e2 := (hy vs hH).symm.trans e1
  cases e2
  have gr : Grow F1 H (upd F1 T (.tup [.int (i : Nat), v])) (upd H T (.tup [.int (i : Nat), v])) := Grow.val s2 hT
  refine ⟨_, gr, .tup (.inl (.inl upd_same)) (.cons ?_ (.cons (dp_mono (s1.trans gr.ff) _ _ rv) .nil))⟩
  rw [Nat.zero_add]
  exact .int _
theorem di_enum {gs : Md (List D)} {tpos : Pos} {elts : List Expr} {kk : Nat} (hg : Gl X "enumerate") (hm : X.mg "enumerate" = none) (ha : DA X [e] gs) (hs : starEach [e] X.env = [(false, eval e X.env)] := by rfl) :
    DI X (.Tuple elts kk tpos) (.Call (.Name "enumerate" p) [e] [] pos) (gEnum gs) :=
  pi_imp (pi_enumA hg hm ha hs) fun σ H R q => by
    obtain ⟨F, ρ, ds, ρ', s, eg, k⟩ := q
    obtain ⟨⟨d, ρ1⟩, e1, eg1⟩ := bind_some eg
    obtain ⟨z, e2, eg2⟩ := bind_some eg1
    cases eg2
    refine ⟨F, ρ, d, _, s, e1, fun vs F1 H1 p1 s1 r1 => ?_⟩
    simp only at e2
    unfold enumOf at e2
    split at e2
    · cases e2
      obtain ⟨v, rfl, rv⟩ := da1 r1
      cases rv with
      | @lst a vs _ h1 d1 => exact ⟨a, vs, rfl, .inl ⟨s1.sub.seq h1, k _ F1 H1 p1 s1 (it_enum h1 d1)⟩⟩
    · cases e2
      obtain ⟨v, rfl, rv⟩ := da1 r1
      cases rv with
      | @tup a vs _ h1 d1 => exact ⟨a, vs, rfl, .inr ⟨seqT_same s1.sub h1, k _ F1 H1 p1 s1 (it_enumT h1 d1)⟩⟩
    · cases e2

/-! ### {k: v, ..} -/
def keyOf : D → Option Key
  | .int i => some (.inl i)
  | .str x => some (.inr x)
  | _ => none
def gKV : List (Md D × Md D) → Md (List (D × D))
  | [] => fun ρ => some ([], ρ)
  | (gk, gv) :: r => fun ρ => (gk ρ).bind fun p => (gv p.2).bind fun q => (gKV r q.2).bind fun z => some ((p.1, q.1) :: z.1, z.2)
def keysOk (es : List (D × D)) : Bool := es.all (fun p => (keyOf p.1).isSome) && decide ((es.map fun p => keyOf p.1).Nodup) && decide (es.length ≤ 15)
def gDic (gs : List (Md D × Md D)) : Md D := fun ρ => (gKV gs ρ).bind fun p => if keysOk p.1 = true then some (.dict p.1, p.2) else none
theorem keyD_of {d : D} {k : Key} (h : keyOf d = some k) : keyD k = d := by
  cases d <;> simp [keyOf] at h <;> subst h <;> rfl
theorem rp_key {K : Kx} {F : Hp} {v : V} {d : D} {k : Key} (r : Rp K F v d) (h : keyOf d = some k) : v = kV k := by
  cases d <;> simp [keyOf] at h <;> subst h <;> cases r <;> rfl
inductive DKV (X : Cx) (pos : Pos) : List (Option Expr) → List Expr → List (Md D × Md D) → Prop
  | nil : DKV X pos [] [] []
  | cons {k v : Expr} {ks : List (Option Expr)} {vs : List Expr} {gk gv : Md D} {r : List (Md D × Md D)} (h1 : DE X k gk) (h2 : DE X v gv) (h3 : DKV X pos ks vs r) : DKV X pos (some k :: ks) (v :: vs) ((gk, gv) :: r)
def tOf (X : Cx) (gs : List (Md D × Md D)) : List (TE × TE) := gs.map fun p => (tD (cxK X) p.1, tD (cxK X) p.2)
theorem DKV.pps {ks : List (Option Expr)} {vs : List Expr} {gs : List (Md D × Md D)} (h : DKV X pos ks vs gs) : PPs X pos ks vs (tOf X gs) := by
  induction h with
  | nil => exact pps_nil
  | cons h1 h2 h3 ih => exact pps_cons h1 h2 ih
theorem DKV.facts {ks : List (Option Expr)} {vs : List Expr} {gs : List (Md D × Md D)} (h : DKV X pos ks vs gs) : ks.all (·.isSome) = true ∧ ks.length = vs.length ∧ ks.length = gs.length := by
  induction h with
  | nil => exact ⟨rfl, rfl, rfl⟩
  | cons h1 h2 h3 ih => exact ⟨by simpa using ih.1, by simp [ih.2.1], by simp [ih.2.2]⟩
inductive RpP (K : Kx) (F : Hp) : List (V × V) → List (D × D) → Prop
  | nil : RpP K F [] []
  | cons {k v : V} {dk dv : D} {ps : List (V × V)} {es : List (D × D)} (h1 : Rp K F k dk) (h2 : Rp K F v dv) (h3 : RpP K F ps es) : RpP K F ((k, v) :: ps) ((dk, dv) :: es)
theorem tkv_q {K : Kx} : ∀ (gs : List (Md D × Md D)) {σ : L2.St} {F H : Hp} {ρ ρ' : Env} {es : List (D × D)} {Q : List (V × V) → Hp → Prop} (s : St K F H σ ρ) (e : gKV gs ρ = some (es, ρ'))
    (k : ∀ ps F' H', Stp F σ ρ H F' σ ρ' H' → St K F' H' σ ρ' → RpP K F' ps es → Q ps H'), tPairs (gs.map fun p => (tD K p.1, tD K p.2)) σ H Q
  | [], σ, F, H, ρ, ρ', es, Q, s, e, k => by
    cases e
    exact k [] F H Stp.refl s .nil
  | (gk, gv) :: r, σ, F, H, ρ, ρ', es, Q, s, e, k => by
    obtain ⟨⟨dk, ρ1⟩, e1, e⟩ := bind_some e
    obtain ⟨⟨dv, ρ2⟩, e2, e⟩ := bind_some e
    obtain ⟨⟨z, ρ3⟩, e3, e⟩ := bind_some e
    cases e
    refine ⟨F, ρ, dk, ρ1, s, e1, fun x F1 H1 p1 s1 r1 => ⟨F1, ρ1, dv, ρ2, s1, e2, fun y F2 H2 p2 s2 r2 => tkv_q r s2 e3 fun ps F3 H3 p3 s3 r3 => k _ F3 H3 ((p1.trans p2).trans p3) s3 (.cons (dp_mono (p2.ff.trans p3.ff) _ _ r1) (dp_mono p3.ff _ _ r2) r3)⟩⟩
theorem rpP_kv {K : Kx} {F : Hp} {ps : List (V × V)} {es : List (D × D)} (r : RpP K F ps es) : es.all (fun p => (keyOf p.1).isSome) = true → ∃ kvs : List (Key × V), ps = kvs.map (fun kv => (kV kv.1, kv.2)) ∧ RpKV K F kvs es ∧ kvs.map (fun kv => some kv.1) = es.map fun p => keyOf p.1 := by
  induction r with
  | nil => exact fun _ => ⟨[], rfl, .nil, rfl⟩
  | @cons k v dk dv ps es h1 h2 h3 ih =>
    intro hk
    rw [List.all_cons, Bool.and_eq_true] at hk
    obtain ⟨kvs, i1, i2, i3⟩ := ih hk.2
    obtain ⟨q, hq⟩ := Option.isSome_iff_exists.mp hk.1
    simp only at hq
    have e1 := rp_key h1 hq
    subst e1
    have e2 := keyD_of hq
    subst e2
    exact ⟨(q, v) :: kvs, by rw [i1]; rfl, .cons h2 i2, by simp [i3, hq]⟩
theorem putK_new {kvs : List (Key × V)} {k : Key} {v : V} (h : ∀ p ∈ kvs, p.1 ≠ k) : putK kvs k v = kvs ++ [(k, v)] := by
  unfold putK
  rw [if_neg]
  intro q
  obtain ⟨p, hp, e⟩ := List.any_eq_true.mp q
  exact h p hp (of_decide_eq_true e)
theorem mergeK_new : ∀ {more kvs : List (Key × V)}, ((kvs ++ more).map (·.1)).Nodup → mergeK kvs more = kvs ++ more
  | [], kvs, _ => (List.append_nil kvs).symm
  | (k, v) :: r, kvs, h => by
    have h1 : ∀ p ∈ kvs, p.1 ≠ k := fun p hp e => by
      rw [List.map_append, List.nodup_append] at h
      exact h.2.2 p.1 (List.mem_map.mpr ⟨p, hp, rfl⟩) k (by simp) e
    show mergeK (putK kvs k v) r = _
    rw [putK_new h1, mergeK_new (by simpa using h), List.append_assoc]
    rfl
theorem de_dic {ks : List (Option Expr)} {vs : List Expr} {gs : List (Md D × Md D)} (h : DKV X pos ks vs gs) (h0 : ks ≠ []) (h15 : ks.length ≤ 15) : DE X (.Dict ks vs pos) (gDic gs) :=
  pe_imp (pe_disp h.pps h.facts.1 h.facts.2.1 h0 h15) fun σ H Q q => by
    obtain ⟨F, ρ, d, ρ', s, eg, k⟩ := q
    obtain ⟨⟨es, ρ1⟩, e1, eg⟩ := bind_some eg
    simp only at eg
    split at eg
    · rename_i hk
      have ee := congrArg Prod.snd (Option.some.inj eg)
      have ed := congrArg Prod.fst (Option.some.inj eg)
      simp only at ee ed
      subst ee ed
      unfold keysOk at hk
      simp only [Bool.and_eq_true, decide_eq_true_eq] at hk
      obtain ⟨⟨hk1, hk2⟩, hk3⟩ := hk
      intro p hp
      have hF : F p = none := by
        cases z : F p with
        | none => rfl
        | some o => have := s.sub _ _ z; rw [hp] at this; cases this
      have hno : ¬ Owns σ ρ p := fun z => by
        obtain ⟨_, u, e⟩ := s.free z
        rw [hp] at e
        cases e
      have gr : Grow F H F (upd H p (.dK [])) := Grow.own s.sub hp
      refine tkv_q gs (s.grow gr) e1 fun ps F2 H2 p2 s2 r2 => ?_
      obtain ⟨k1, k2⟩ := p2.keep p _ upd_same hno
      obtain ⟨kvs, i1, i2, i3⟩ := rpP_kv r2 hk1
      have hl : kvs.length = es.length := by simpa using congrArg List.length i3
      have hnd : (kvs.map (·.1)).Nodup := by
        rw [← i3] at hk2
        have e4 : kvs.map (fun kv => some kv.1) = (kvs.map (·.1)).map some := by simp
        rw [e4] at hk2
        exact List.Pairwise.imp (fun h => fun e => h (congrArg some e)) (List.pairwise_map.mp hk2)
      refine ⟨k1, kvs, i1, by omega, ?_⟩
      have em : mergeK [] kvs = kvs := mergeK_new (kvs := []) (by simpa using hnd)
      rw [em]
      have hF2 : F2 p = none := k2.trans hF
      have p3 : Stp F σ ρ H F2 σ ρ1 H2 := (gr.stp σ ρ).trans p2
      have hn2 : ¬ Owns σ ρ1 p := fun z => by
        rcases p2.fresh p z with y | y
        · exact hno y
        · rw [upd_same] at y; cases y
      have sf : Same F2 (upd F2 p (.dK kvs)) := same_new hF2
      refine k (.ref p) (upd F2 p (.dK kvs)) (upd H2 p (.dK kvs)) ⟨p3.ff.trans sf, fun b o hb nb => ?_, p3.fresh, p3.fix, fun b o hb => ?_⟩ ?_ (.dic upd_same (dpKV_mono sf _ _ i2))
      · obtain ⟨j1, j2⟩ := p3.keep b o hb nb
        have nbp : b ≠ p := ne_of_none hb hp
        exact ⟨(upd_ne nbp).trans j1, (upd_ne nbp).trans j2⟩
      · obtain ⟨o', j⟩ := p3.dom b o hb
        exact ⟨o', (upd_ne (ne_of_none hb hp)).trans j⟩
      · refine ⟨fun b x hb => ?_, s2.len, fun i c hi => ?_, s2.dist⟩
        · by_cases z : b = p
          · subst z
            rw [upd_same] at hb ⊢
            exact hb
          · rw [upd_ne z] at hb ⊢
            exact s2.sub b x hb
        · have q := s2.cell i c hi
          cases c with
          | val d =>
            obtain ⟨v, j1, j2⟩ := q
            exact ⟨v, j1, dp_mono sf _ _ j2⟩
          | own f d =>
            obtain ⟨b, j1, j2⟩ := q
            have nb : b ≠ p := fun z => by
              subst z
              exact hn2 ⟨i, f, d, hi, j1⟩
            exact ⟨b, j1, (upd_ne nb).trans j2.1, j2.2.mono sf fun o j5 => (upd_ne nb).trans j5⟩
    · cases eg
end
end Dn
set_option maxHeartbeats 2000000
/-! sorted: data of whole numbers, texts, tuples of these; in a tuple the first place that differs decides -/
namespace DnSo
open PySem PySem.SeqAt PyProof.Rows PySem.W SrtO DnLt

def rk3 : PyData → Nat
  | .none => 0
  | .bool _ => 1
  | .int _ => 2
  | .str _ => 3
  | .tuple _ => 4
  | .list _ => 5
  | .dict _ => 6
mutual
def cmp3 : PyData → PyData → Ordering
  | .int i, .int j => if i < j then .lt else if j < i then .gt else .eq
  | .str a, .str b => if a.cps.toList < b.cps.toList then .lt else if b.cps.toList < a.cps.toList then .gt else .eq
  | .tuple xs, .tuple ys => cmpL xs ys
  | d, e => if rk3 d < rk3 e then .lt else if rk3 e < rk3 d then .gt else .eq
def cmpL : List PyData → List PyData → Ordering
  | [], [] => .eq
  | [], _ :: _ => .lt
  | _ :: _, [] => .gt
  | x :: xs, y :: ys => (cmp3 x y).then (cmpL xs ys)
end
theorem cmp3_rk {d e : PyData} (h : rk3 d ≠ rk3 e) : cmp3 d e = if rk3 d < rk3 e then .lt else .gt := by
  have hl : ¬ rk3 d < rk3 e → rk3 e < rk3 d := by omega
  cases d <;> cases e <;> first | (exfalso; exact h rfl) | (simp [cmp3, rk3])
theorem lst_tri (a b : List Nat) : a < b ∨ a = b ∨ b < a := by
  by_cases h : a < b
  · exact .inl h
  · by_cases h2 : b < a
    · exact .inr (.inr h2)
    · exact .inr (.inl (List.le_antisymm (List.not_lt.mp h2) (List.not_lt.mp h)))
theorem rk_le {d e : PyData} (h : cmp3 d e ≠ .gt) : rk3 d ≤ rk3 e := by
  by_cases q : rk3 d = rk3 e
  · omega
  · rw [cmp3_rk q] at h
    by_cases a : rk3 d < rk3 e
    · omega
    · simp [a] at h
theorem rk_lt {d e : PyData} (h : rk3 d < rk3 e) : cmp3 d e = .lt := by
  rw [cmp3_rk (by omega), if_pos h]
theorem swap_rk {d e : PyData} (h : rk3 d ≠ rk3 e) : cmp3 e d = (cmp3 d e).swap := by
  rw [cmp3_rk h, cmp3_rk (Ne.symm h)]
  by_cases a : rk3 d < rk3 e
  · rw [if_pos a, if_neg (by omega)]
    rfl
  · rw [if_neg a, if_pos (by omega)]
    rfl
theorem trans_rk {d e f : PyData} (h : ¬ (rk3 d = rk3 e ∧ rk3 e = rk3 f)) (h1 : cmp3 d e ≠ .gt) (h2 : cmp3 e f ≠ .gt) : cmp3 d f = (cmp3 d e).then (cmp3 e f) := by
  have a := rk_le h1
  have b := rk_le h2
  rw [rk_lt (show rk3 d < rk3 f by omega)]
  by_cases q : rk3 d < rk3 e
  · rw [rk_lt q]
    rfl
  · rw [rk_lt (show rk3 e < rk3 f by omega)]
    cases hc : cmp3 d e with
    | lt => rfl
    | eq => rfl
    | gt => exact absurd hc h1
theorem trans_int {i j k : Int} (h1 : cmp3 (.int i) (.int j) ≠ .gt) (h2 : cmp3 (.int j) (.int k) ≠ .gt) : cmp3 (.int i) (.int k) = (cmp3 (.int i) (.int j)).then (cmp3 (.int j) (.int k)) := by
  simp only [cmp3] at h1 h2 ⊢
  have e1 : ¬ j < i := fun z => by
    rw [if_neg (show ¬ i < j by omega), if_pos z] at h1
    exact h1 rfl
  have e2 : ¬ k < j := fun z => by
    rw [if_neg (show ¬ j < k by omega), if_pos z] at h2
    exact h2 rfl
  by_cases a : i < j
  · rw [if_pos a, if_pos (show i < k by omega)]
    rfl
  · have : i = j := by omega
    subst this
    rw [if_neg a, if_neg a]
    rfl
theorem trans_str {i j k : Str} (h1 : cmp3 (.str i) (.str j) ≠ .gt) (h2 : cmp3 (.str j) (.str k) ≠ .gt) : cmp3 (.str i) (.str k) = (cmp3 (.str i) (.str j)).then (cmp3 (.str j) (.str k)) := by
  simp only [cmp3] at h1 h2 ⊢
  generalize i.cps.toList = i at h1 ⊢
  generalize k.cps.toList = k at h2 ⊢
  generalize j.cps.toList = j at h1 h2 ⊢
  have e1 : ¬ j < i := fun z => by
    rw [if_neg (fun y => List.lt_asymm y z), if_pos z] at h1
    exact h1 rfl
  have e2 : ¬ k < j := fun z => by
    rw [if_neg (fun y => List.lt_asymm y z), if_pos z] at h2
    exact h2 rfl
  by_cases a : i < j
  · have b : i < k := by
      rcases lst_tri j k with h | h | h
      · exact List.lt_trans a h
      · exact h ▸ a
      · exact absurd h e2
    rw [if_pos a, if_pos b]
    rfl
  · have : i = j := List.le_antisymm (List.not_lt.mp e1) (List.not_lt.mp a)
    subst this
    rw [if_neg a, if_neg a]
    rfl
mutual
theorem trans3 : ∀ (d e f : PyData), cmp3 d e ≠ .gt → cmp3 e f ≠ .gt → cmp3 d f = (cmp3 d e).then (cmp3 e f)
  | .tuple xs, e, f, h1, h2 => by
    by_cases q : rk3 (.tuple xs) = rk3 e ∧ rk3 e = rk3 f
    · obtain ⟨q1, q2⟩ := q
      cases e <;> simp only [rk3, reduceCtorEq, Nat.reduceEqDiff] at q1
      cases f <;> simp only [rk3, reduceCtorEq, Nat.reduceEqDiff] at q2
      simp only [cmp3] at h1 h2 ⊢
      exact transL xs _ _ h1 h2
    · exact trans_rk q h1 h2
  | .int i, e, f, h1, h2 => by
    by_cases q : rk3 (.int i) = rk3 e ∧ rk3 e = rk3 f
    · obtain ⟨q1, q2⟩ := q
      cases e <;> simp only [rk3, reduceCtorEq, Nat.reduceEqDiff] at q1
      cases f <;> simp only [rk3, reduceCtorEq, Nat.reduceEqDiff] at q2
      exact trans_int h1 h2
    · exact trans_rk q h1 h2
  | .str i, e, f, h1, h2 => by
    by_cases q : rk3 (.str i) = rk3 e ∧ rk3 e = rk3 f
    · obtain ⟨q1, q2⟩ := q
      cases e <;> simp only [rk3, reduceCtorEq, Nat.reduceEqDiff] at q1
      cases f <;> simp only [rk3, reduceCtorEq, Nat.reduceEqDiff] at q2
      exact trans_str h1 h2
    · exact trans_rk q h1 h2
  | .none, e, f, h1, h2 => by
    by_cases q : rk3 .none = rk3 e ∧ rk3 e = rk3 f
    · obtain ⟨q1, q2⟩ := q
      cases e <;> simp only [rk3, reduceCtorEq, Nat.reduceEqDiff] at q1
      cases f <;> simp only [rk3, reduceCtorEq, Nat.reduceEqDiff] at q2
      simp [cmp3, rk3]
    · exact trans_rk q h1 h2
  | .bool i, e, f, h1, h2 => by
    by_cases q : rk3 (.bool i) = rk3 e ∧ rk3 e = rk3 f
    · obtain ⟨q1, q2⟩ := q
      cases e <;> simp only [rk3, reduceCtorEq, Nat.reduceEqDiff] at q1
      cases f <;> simp only [rk3, reduceCtorEq, Nat.reduceEqDiff] at q2
      simp [cmp3, rk3]
    · exact trans_rk q h1 h2
  | .list i, e, f, h1, h2 => by
    by_cases q : rk3 (.list i) = rk3 e ∧ rk3 e = rk3 f
    · obtain ⟨q1, q2⟩ := q
      cases e <;> simp only [rk3, reduceCtorEq, Nat.reduceEqDiff] at q1
      cases f <;> simp only [rk3, reduceCtorEq, Nat.reduceEqDiff] at q2
      simp [cmp3, rk3]
    · exact trans_rk q h1 h2
  | .dict i, e, f, h1, h2 => by
    by_cases q : rk3 (.dict i) = rk3 e ∧ rk3 e = rk3 f
    · obtain ⟨q1, q2⟩ := q
      cases e <;> simp only [rk3, reduceCtorEq, Nat.reduceEqDiff] at q1
      cases f <;> simp only [rk3, reduceCtorEq, Nat.reduceEqDiff] at q2
      simp [cmp3, rk3]
    · exact trans_rk q h1 h2
theorem transL : ∀ (xs ys zs : List PyData), cmpL xs ys ≠ .gt → cmpL ys zs ≠ .gt → cmpL xs zs = (cmpL xs ys).then (cmpL ys zs)
  | [], [], zs, _, _ => by cases zs <;> rfl
  | [], _ :: _, [], _, h2 => absurd rfl h2
  | [], _ :: _, _ :: _, _, _ => rfl
  | _ :: _, [], _, h1, _ => absurd rfl h1
  | _ :: _, _ :: _, [], _, h2 => absurd rfl h2
  | x :: xs, y :: ys, z :: zs, h1, h2 => by
    simp only [cmpL] at h1 h2 ⊢
    have g1 : cmp3 x y ≠ .gt := fun q => by rw [q] at h1; exact h1 rfl
    have g2 : cmp3 y z ≠ .gt := fun q => by rw [q] at h2; exact h2 rfl
    rw [trans3 x y z g1 g2]
    cases q1 : cmp3 x y with
    | gt => exact absurd q1 g1
    | lt => rfl
    | eq =>
      cases q2 : cmp3 y z with
      | gt => exact absurd q2 g2
      | lt =>
        rw [q1] at h1
        cases q3 : cmpL xs ys with
        | gt => rw [q3] at h1; exact absurd rfl h1
        | lt => rfl
        | eq => rfl
      | eq =>
        rw [q1] at h1
        rw [q2] at h2
        exact transL xs ys zs h1 h2
end
mutual
theorem swap3 : ∀ (d e : PyData), cmp3 e d = (cmp3 d e).swap
  | .tuple xs, e => by
    by_cases q : rk3 (.tuple xs) = rk3 e
    · cases e <;> simp only [rk3, reduceCtorEq, Nat.reduceEqDiff] at q
      simp only [cmp3]
      exact swapL xs _
    · exact swap_rk q
  | .int i, e => by
    by_cases q : rk3 (.int i) = rk3 e
    · cases e <;> simp only [rk3, reduceCtorEq, Nat.reduceEqDiff] at q
      rename_i j
      simp only [cmp3]
      by_cases a : i < j
      · rw [if_pos a, if_neg (by omega), if_pos a]
        rfl
      · by_cases b : j < i
        · rw [if_pos b, if_neg a, if_pos b]
          rfl
        · rw [if_neg b, if_neg a, if_neg a, if_neg b]
          rfl
    · exact swap_rk q
  | .str i, e => by
    by_cases q : rk3 (.str i) = rk3 e
    · cases e <;> simp only [rk3, reduceCtorEq, Nat.reduceEqDiff] at q
      rename_i j
      simp only [cmp3]
      by_cases a : i.cps.toList < j.cps.toList
      · rw [if_pos a, if_neg (fun z => List.lt_asymm a z), if_pos a]
        rfl
      · by_cases b : j.cps.toList < i.cps.toList
        · rw [if_pos b, if_neg a, if_pos b]
          rfl
        · rw [if_neg b, if_neg a, if_neg a, if_neg b]
          rfl
    · exact swap_rk q
  | .none, e => by
    by_cases q : rk3 .none = rk3 e
    · cases e <;> simp only [rk3, reduceCtorEq, Nat.reduceEqDiff] at q
      simp [cmp3, rk3]
    · exact swap_rk q
  | .bool i, e => by
    by_cases q : rk3 (.bool i) = rk3 e
    · cases e <;> simp only [rk3, reduceCtorEq, Nat.reduceEqDiff] at q
      simp [cmp3, rk3]
    · exact swap_rk q
  | .list i, e => by
    by_cases q : rk3 (.list i) = rk3 e
    · cases e <;> simp only [rk3, reduceCtorEq, Nat.reduceEqDiff] at q
      simp [cmp3, rk3]
    · exact swap_rk q
  | .dict i, e => by
    by_cases q : rk3 (.dict i) = rk3 e
    · cases e <;> simp only [rk3, reduceCtorEq, Nat.reduceEqDiff] at q
      simp [cmp3, rk3]
    · exact swap_rk q
theorem swapL : ∀ (xs ys : List PyData), cmpL ys xs = (cmpL xs ys).swap
  | [], [] => rfl
  | [], _ :: _ => rfl
  | _ :: _, [] => rfl
  | x :: xs, y :: ys => by
    simp only [cmpL]
    rw [swap3 x y, swapL xs ys]
    cases cmp3 x y <;> rfl
end
theorem swo3 : Swo (fun d e : PyData => cmp3 d e == .lt) := by
  refine ⟨fun x y h => ?_, fun x y z h1 h2 => ?_⟩
  · have e : cmp3 x y = .lt := by simpa using h
    rw [swap3 x y, e]
    rfl
  · have a1 : cmp3 x y ≠ .gt := fun q => by
      rw [swap3 x y, q] at h1
      exact absurd h1 (by decide)
    have a2 : cmp3 y z ≠ .gt := fun q => by
      rw [swap3 y z, q] at h2
      exact absurd h2 (by decide)
    have a3 := trans3 x y z a1 a2
    rw [swap3 x z, a3]
    cases q1 : cmp3 x y with
    | gt => exact absurd q1 a1
    | lt => rfl
    | eq =>
      cases q2 : cmp3 y z with
      | gt => exact absurd q2 a2
      | lt => rfl
      | eq => rfl
/-! plain data that stand in an order: whole numbers, texts, tuples -/
mutual
def ord0 : PyData → Bool
  | .int _ => true
  | .str _ => true
  | .tuple xs => ordL xs
  | _ => false
def ordL : List PyData → Bool
  | [] => true
  | x :: xs => ord0 x && ordL xs
end
mutual
theorem eq_of_cmp : ∀ (d e : PyData), ord0 d = true → ord0 e = true → cmp3 d e = .eq → d = e
  | .tuple xs, e, h1, h2, h => by
    cases e <;> simp only [ord0, Bool.false_eq_true] at h2
    · simp [cmp3, rk3] at h
    · simp [cmp3, rk3] at h
    · simp only [cmp3] at h
      rw [eqL_of_cmp xs _ (by simpa [ord0] using h1) h2 h]
  | .int i, e, h1, h2, h => by
    cases e <;> simp only [ord0, Bool.false_eq_true] at h2
    · simp only [cmp3] at h
      rename_i j
      by_cases a : i < j
      · simp [a] at h
      · by_cases b : j < i
        · simp [a, b] at h
        · rw [show i = j by omega]
    · simp [cmp3, rk3] at h
    · simp [cmp3, rk3] at h
  | .str i, e, h1, h2, h => by
    cases e <;> simp only [ord0, Bool.false_eq_true] at h2
    · simp [cmp3, rk3] at h
    · simp only [cmp3] at h
      rename_i j
      by_cases a : i.cps.toList < j.cps.toList
      · simp [a] at h
      · by_cases b : j.cps.toList < i.cps.toList
        · simp [a, b] at h
        · rw [PySem.W.str_of_cps (List.le_antisymm (List.not_lt.mp b) (List.not_lt.mp a))]
    · simp [cmp3, rk3] at h
  | .none, _, h, _, _ => by cases h
  | .bool _, _, h, _, _ => by cases h
  | .list _, _, h, _, _ => by cases h
  | .dict _, _, h, _, _ => by cases h
theorem eqL_of_cmp : ∀ (xs ys : List PyData), ordL xs = true → ordL ys = true → cmpL xs ys = .eq → xs = ys
  | [], [], _, _, _ => rfl
  | [], _ :: _, _, _, h => by cases h
  | _ :: _, [], _, _, h => by cases h
  | x :: xs, y :: ys, h1, h2, h => by
    simp only [ordL, Bool.and_eq_true] at h1 h2
    simp only [cmpL] at h
    cases q : cmp3 x y with
    | lt => rw [q] at h; cases h
    | gt => rw [q] at h; cases h
    | eq =>
      rw [q] at h
      rw [eq_of_cmp x y h1.1 h2.1 q, eqL_of_cmp xs ys h1.2 h2.2 h]
end
theorem cmp_self (d : PyData) : cmp3 d d = .eq := by
  have h := swap3 d d
  cases q : cmp3 d d with
  | eq => rfl
  | lt => rw [q] at h; cases h
  | gt => rw [q] at h; cases h
mutual
theorem eq_of_eqv : ∀ (d e : PyData), ord0 d = true → ord0 e = true → PyData.eqv d e = true → d = e
  | .tuple xs, e, h1, h2, h => by
    cases e <;> simp only [ord0, Bool.false_eq_true] at h2
    · simp [PyData.eqv] at h
    · simp [PyData.eqv] at h
    · simp only [PyData.eqv] at h
      rw [eqL_of_eqv xs _ (by simpa [ord0] using h1) h2 h]
  | .int i, e, h1, h2, h => by
    cases e <;> simp only [ord0, Bool.false_eq_true] at h2
    · simp [PyData.eqv] at h
      rw [h]
    · simp [PyData.eqv] at h
    · simp [PyData.eqv] at h
  | .str i, e, h1, h2, h => by
    cases e <;> simp only [ord0, Bool.false_eq_true] at h2
    · simp [PyData.eqv] at h
    · simp [PyData.eqv] at h
      rw [h]
    · simp [PyData.eqv] at h
  | .none, _, h, _, _ => by cases h
  | .bool _, _, h, _, _ => by cases h
  | .list _, _, h, _, _ => by cases h
  | .dict _, _, h, _, _ => by cases h
theorem eqL_of_eqv : ∀ (xs ys : List PyData), ordL xs = true → ordL ys = true → PyData.eqvAll xs ys = true → xs = ys
  | [], [], _, _, _ => rfl
  | [], _ :: _, _, _, h => by simp [PyData.eqvAll] at h
  | _ :: _, [], _, _, h => by simp [PyData.eqvAll] at h
  | x :: xs, y :: ys, h1, h2, h => by
    simp only [ordL, Bool.and_eq_true] at h1 h2
    simp only [PyData.eqvAll, Bool.and_eq_true] at h
    rw [eq_of_eqv x y h1.1 h2.1 h.1, eqL_of_eqv xs ys h1.2 h2.2 h.2]
end
mutual
theorem eqv_self : ∀ (d : PyData), ord0 d = true → PyData.eqv d d = true
  | .tuple xs, h => by
    simp only [PyData.eqv]
    exact eqvL_self xs h
  | .int i, _ => by simp [PyData.eqv]
  | .str i, _ => by simp [PyData.eqv]
  | .none, h => by cases h
  | .bool _, h => by cases h
  | .list _, h => by cases h
  | .dict _, h => by cases h
theorem eqvL_self : ∀ (xs : List PyData), ordL xs = true → PyData.eqvAll xs xs = true
  | [], _ => rfl
  | x :: xs, h => by
    simp only [ordL, Bool.and_eq_true] at h
    simp only [PyData.eqvAll, eqv_self x h.1, eqvL_self xs h.2, Bool.and_self]
end
mutual
theorem cmp_of_ltB : ∀ (d e : PyData) (b : Bool), ord0 d = true → ord0 e = true → ltB d e = some b → b = (cmp3 d e == .lt)
  | .tuple xs, e, b, h1, h2, h => by
    cases e <;> simp only [ord0, Bool.false_eq_true] at h2
    · simp [ltB] at h
    · simp [ltB] at h
    · simp only [ltB] at h
      simp only [cmp3]
      exact cmp_of_ltA xs _ b h1 h2 h
  | .int i, e, b, h1, h2, h => by
    cases e <;> simp only [ord0, Bool.false_eq_true] at h2
    · simp only [ltB, Option.some.injEq] at h
      rename_i j
      rw [← h]
      simp only [cmp3]
      by_cases a : i < j
      · simp [a]
      · by_cases c : j < i <;> simp [a, c]
    · simp [ltB] at h
    · simp [ltB] at h
  | .str i, e, b, h1, h2, h => by
    cases e <;> simp only [ord0, Bool.false_eq_true] at h2
    · simp [ltB] at h
    · simp only [ltB, Option.some.injEq] at h
      rename_i j
      rw [← h]
      simp only [cmp3]
      by_cases a : i.cps.toList < j.cps.toList
      · simp [a]
      · by_cases c : j.cps.toList < i.cps.toList <;> simp [a, c]
    · simp [ltB] at h
  | .none, _, _, h, _, _ => by cases h
  | .bool _, _, _, h, _, _ => by cases h
  | .list _, _, _, h, _, _ => by cases h
  | .dict _, _, _, h, _, _ => by cases h
theorem cmp_of_ltA : ∀ (xs ys : List PyData) (b : Bool), ordL xs = true → ordL ys = true → ltA xs ys = some b → b = (cmpL xs ys == .lt)
  | [], [], b, _, _, h => by
    simp only [ltA, Option.some.injEq] at h
    rw [← h]
    rfl
  | [], _ :: _, b, _, _, h => by
    simp only [ltA, Option.some.injEq] at h
    rw [← h]
    rfl
  | _ :: _, [], b, _, _, h => by
    simp only [ltA, Option.some.injEq] at h
    rw [← h]
    rfl
  | x :: xs, y :: ys, b, h1, h2, h => by
    simp only [ordL, Bool.and_eq_true] at h1 h2
    simp only [cmpL]
    rw [ltA] at h
    by_cases q : PyData.eqv x y = true
    · rw [if_pos q] at h
      have e := eq_of_eqv x y h1.1 h2.1 q
      subst e
      rw [cmp_self]
      exact cmp_of_ltA xs ys b h1.2 h2.2 h
    · rw [if_neg q] at h
      have e := cmp_of_ltB x y b h1.1 h2.1 h
      cases c : cmp3 x y with
      | lt => rw [c] at e; exact e
      | gt => rw [c] at e; exact e
      | eq =>
        have := eq_of_cmp x y h1.1 h2.1 c
        subst this
        exact absurd (eqv_self x h1.1) q
end
/-- sorted by cmp3 -/
def leD3 (d e : PyData) : Bool := !(cmp3 e d == .lt)
theorem sort_one {ds out : List PyData} (h0 : ∀ d ∈ ds, ord0 d = true) (hp : out.Perm ds) (hs : out.Pairwise fun x y => (cmp3 y x == .lt) = false) : out = ds.mergeSort leD3 := by
  have O := swo3
  refine List.Perm.eq_of_pairwise (le := fun x y => leD3 x y = true) (fun a b ha hb h1 h2 => ?_) (hs.imp fun h => by simp [leD3, h]) (List.pairwise_mergeSort (fun a b c h1 h2 => ?_) (fun a b => ?_) ds) (hp.trans (List.mergeSort_perm ds leD3).symm)
  · have a0 := h0 a (hp.mem_iff.mp ha)
    have b0 := h0 b ((List.mergeSort_perm ds leD3).mem_iff.mp hb)
    refine eq_of_cmp a b a0 b0 ?_
    cases c : cmp3 a b with
    | eq => rfl
    | lt => simp [leD3, c] at h2
    | gt =>
      have := swap3 a b
      rw [c] at this
      simp [leD3, this] at h1
  · simp only [leD3, Bool.not_eq_true'] at h1 h2 ⊢
    exact O.tr a b c h1 h2
  · unfold leD3
    cases c : (cmp3 b a == .lt) with
    | false => rfl
    | true =>
      rw [O.asym b a c]
      rfl

/-! the comparison of the sort -/
section
variable {prog : Program} {w : World} {A : Around} {E : Value → Shared → Prop} {s : Shared} {b fin : Bool} {Q : Bool → Shared → Prop}
theorem kat_reads : ∀ (xs ys : List PyData) (vs ws : List Value) (as bs : List Addr) (k : Bool) (i : Nat), ReadsAll s.heap vs xs as → ReadsAll s.heap ws ys bs → ltA xs ys = some k → PyData.canLayAll0 xs = true → PyData.canLayAll0 ys = true →
    A.units + PyData.depthAll xs < cLine → fin = decide (vs.length < ws.length) → ((b && i == 0) = true → ∀ x r y t, xs = x :: r → ys = y :: t → ∃ i j, x = .int i ∧ y = .int j) → Q k s → KatLex prog w A b fin Q (vs.zip ws) i s
  | [], [], _, _, _, _, k, i, ra, rb, h, _, _, _, hf, _, q => by
    cases ra
    cases rb
    simp only [ltA, Option.some.injEq] at h
    rw [← h] at q
    rw [hf]
    exact kat_nil q
  | [], _ :: _, _, _, _, _, k, i, ra, rb, h, _, _, _, hf, _, q => by
    cases ra
    cases rb
    simp only [ltA, Option.some.injEq] at h
    rw [← h] at q
    rw [hf]
    exact kat_nil (by simpa using q)
  | _ :: _, [], _, _, _, _, k, i, ra, rb, h, _, _, _, hf, _, q => by
    cases ra
    cases rb
    simp only [ltA, Option.some.injEq] at h
    rw [← h] at q
    rw [hf]
    exact kat_nil (by simpa using q)
  | x :: xs, y :: ys, _, _, _, _, k, i, ra, rb, h, c1, c2, hu, hf, hi, q => by
    have d1 : x.canLay0 = true ∧ PyData.canLayAll0 xs = true := by simpa [PyData.canLayAll0] using c1
    have d2 : y.canLay0 = true ∧ PyData.canLayAll0 ys = true := by simpa [PyData.canLayAll0] using c2
    have hd : A.units + max x.depth (PyData.depthAll xs) < cLine := by simpa [PyData.depthAll] using hu
    cases ra with
    | cons r rs =>
      cases rb with
      | cons t ts =>
        have e := eqAt_reads x y A s _ _ _ _ r t d1.1 d2.1 (by omega)
        rw [ltA] at h
        rw [List.zip_cons_cons]
        refine kat_cons (e prog w _ _ ?_)
        by_cases z : PyData.eqv x y = true
        · rw [if_pos z] at h
          rw [z]
          refine kat_yes (kat_reads xs ys _ _ _ _ k (i + 1) rs ts h d1.2 d2.2 (by omega) (by rw [hf]; simp) (fun n => ?_) q)
          simp at n
        · rw [if_neg z] at h
          have z' : PyData.eqv x y = false := by simpa using z
          rw [z']
          refine kat_no ?_
          cases hb : (b && i == 0) with
          | true =>
            obtain ⟨m, n, rfl, rfl⟩ := hi hb _ _ _ _ rfl rfl
            cases r
            cases t
            simp only [ltB, Option.some.injEq] at h
            refine oneLt_int ?_
            rw [h]
            exact q
          | false => exact kat_one _ _ (rc_lt x y A s _ _ _ _ k r t h d1.1 d2.1 (by omega) prog w _ _ q)
end
end DnSo
set_option maxHeartbeats 2000000
/-! sorted(xs) -/
namespace DnSo
open PySem PySem.SeqAt PyProof.Rows PySem.W SrtO DnLt
noncomputable def kOf (h : Heap) (v : Value) : PyData := by
  classical
  exact if q : ∃ d as, Reads h v d as then Classical.choose q else .none
theorem kOf_eq {h : Heap} {v : Value} {d : PyData} {as : List Addr} (r : Reads h v d as) : kOf h v = d := by
  unfold kOf
  have q : ∃ d as, Reads h v d as := ⟨d, as, r⟩
  rw [dif_pos q]
  obtain ⟨bs, r2⟩ := Classical.choose_spec q
  exact (Reads.unique r2 _ _ r).1
def isI : PyData → Bool
  | .int _ => true
  | _ => false
def isT : PyData → Bool
  | .tuple _ => true
  | _ => false
/-- a tuple whose first item is such -/
def fst1 (p : PyData → Bool) : PyData → Bool
  | .tuple (x :: _) => p x
  | _ => false
def sortOk (ds : List PyData) : Bool := decide (ds.length ≤ 16777216) && ds.all (fun d => ord0 d && d.canLay0 && decide (d.depth ≤ 8)) && ds.all (fun d => ds.all fun e => (ltB d e).isSome) && (ds.all (fst1 isI) || ds.all (fst1 isT) || ds.all isI)
section
variable {prog : Program} {w : World} {A : Around} {E : Value → Shared → Prop} {s : Shared}
noncomputable def ltK (h : Heap) (v u : Value) : Bool := cmp3 (kOf h v) (kOf h u) == .lt
theorem swoK (h : Heap) : Swo (ltK h) := ⟨fun x y => swo3.asym _ _, fun x y z => swo3.tr _ _ _⟩
theorem katTups_of {h : Heap} (p : PyData → Bool) : ∀ {vs : List Value}, (∀ v ∈ vs, ∃ d as, Reads h v d as ∧ fst1 p d = true) → ∃ fs, KatTups h vs fs ∧ fs.length = vs.length ∧ ∀ f ∈ fs, ∃ x as, Reads h f x as ∧ p x = true
  | [], _ => ⟨[], .nil, rfl, by simp⟩
  | v :: vs, hv => by
    obtain ⟨fs, k1, k2, k3⟩ := katTups_of p (vs := vs) fun u hu => hv u (List.mem_cons_of_mem _ hu)
    obtain ⟨d, as, r, hp⟩ := hv v List.mem_cons_self
    cases d <;> simp only [fst1, Bool.false_eq_true] at hp
    rename_i xs
    cases xs with
    | nil => simp at hp
    | cons x xs =>
      simp only at hp
      cases r with
      | tuple h1 h2 h3 h4 =>
        rename_i a o us n
        cases us with
        | mk ul =>
          cases h4 with
          | cons r1 r2 =>
            rename_i f us2 _ _
            refine ⟨f :: fs, .cons h1 h2 h3 (by simp) k1, by simp [k2], fun g hg => ?_⟩
            rcases List.mem_cons.mp hg with e | e
            · subst e
              exact ⟨x, _, r1, hp⟩
            · exact k3 g e
theorem sortableK {h0 : Heap} {a : Addr} {vs : List Value} {ds : List PyData} (hv : ∀ v ∈ vs, ∃ d as, d ∈ ds ∧ Reads h0 v d as) (ok : sortOk ds = true) (h2 : 2 ≤ vs.length) (hk : ∀ b o, h0.get? b = some o → b ≠ a ∧ s.heap.get? b = some o) (hu : A.units + 20 < cLine) : SortableO prog w A s a vs (ltK h0) := by
  unfold sortOk at ok
  simp only [Bool.and_eq_true, List.all_eq_true, decide_eq_true_eq, Bool.or_eq_true] at ok
  obtain ⟨⟨⟨_, hd⟩, hc⟩, hkind⟩ := ok
  intro h' keep
  have ext : ∀ b o, h0.get? b = some o → h'.get? b = some o := fun b o e => keep b o (hk b o e).1 (hk b o e).2
  have cmpT : ∀ b : Bool, (∀ d ∈ ds, isT d = true) → (b = true → ∀ d ∈ ds, fst1 isI d = true) → Cmp prog w A { s with heap := h' } (tuples' b) (fun p => p.1 ∈ vs) (lt2 (ltK h0)) := by
    intro b hT hb p q hm hm'
    obtain ⟨d, as, hd1, r1⟩ := hv _ hm
    obtain ⟨e, bs, hd2, r2⟩ := hv _ hm'
    show wpAny (model prog w) A (keyLt' (tuples' b) p.1 q.1) (fun r s' => s' = { s with heap := h' } ∧ r = ltK h0 p.1 q.1) (fun _ _ => False) { s with heap := h' }
    obtain ⟨k, hk1⟩ := Option.isSome_iff_exists.mp (hc d hd1 e hd2)
    have e1 : ltK h0 p.1 q.1 = k := by
      unfold ltK
      rw [kOf_eq r1, kOf_eq r2]
      exact (cmp_of_ltB d e k (hd d hd1).1.1 (hd e hd2).1.1 hk1).symm
    rw [e1]
    have r1' := Reads.keeps ext r1
    have r2' := Reads.keeps ext r2
    have t1 := hT d hd1
    have t2 := hT e hd2
    have c1 := (hd d hd1).1.2
    have c2 := (hd e hd2).1.2
    have dp := (hd d hd1).2
    have b1 : b = true → fst1 isI d = true ∧ fst1 isI e = true := fun z => ⟨hb z d hd1, hb z e hd2⟩
    cases d <;> simp only [isT, Bool.false_eq_true] at t1
    cases e <;> simp only [isT, Bool.false_eq_true] at t2
    rename_i xs ys
    rw [ltB] at hk1
    generalize p.1 = pv at r1' ⊢
    generalize q.1 = qv at r2' ⊢
    cases r1' with
    | tuple h1 h2 h3 h4 =>
      cases r2' with
      | tuple m1 m2 m3 m4 =>
        refine kat_lt h1 h3 m1 m3 ?_
        refine kat_reads xs ys _ _ _ _ k 0 h4 m4 hk1 (by simpa [PyData.canLay0] using c1) (by simpa [PyData.canLay0] using c2) ?_ (by simp) (fun z x r y t ex ey => ?_) ⟨rfl, rfl⟩
        · have : PyData.depthAll xs + 1 ≤ 8 := by simpa [PyData.depth] using dp
          omega
        · subst ex ey
          have zb : b = true := by simpa using z
          obtain ⟨i1, i2⟩ := b1 zb
          simp only [fst1] at i1 i2
          cases x <;> simp only [isI, Bool.false_eq_true] at i1
          cases y <;> simp only [isI, Bool.false_eq_true] at i2
          exact ⟨_, _, rfl, rfl⟩
  have reads : ∀ p : PyData → Bool, (∀ d ∈ ds, p d = true) → ∀ v ∈ vs, ∃ d as, Reads h' v d as ∧ p d = true := fun p hp v hm => by
    obtain ⟨d, as, hd1, r1⟩ := hv v hm
    exact ⟨d, as, Reads.keeps ext r1, hp d hd1⟩
  rcases hkind with (hI | hT) | hN
  · obtain ⟨fs, k1, k2, k3⟩ := katTups_of isI (reads _ hI)
    refine ⟨_, fun Q E hq => kat_kind (T := .type "int") k1 (by omega) (fun f hf => ?_) (by rfl) hq, cmpT _ (fun d hd => ?_) fun _ => hI⟩
    · obtain ⟨x, as, r, hx⟩ := k3 f hf
      cases x <;> simp only [isI, Bool.false_eq_true] at hx
      cases r
      exact Looks.now
    · have := hI d hd
      cases d <;> simp only [fst1, Bool.false_eq_true] at this
      rfl
  · obtain ⟨fs, k1, k2, k3⟩ := katTups_of isT (reads _ hT)
    refine ⟨_, fun Q E hq => kat_kind (T := .type "tuple") k1 (by omega) (fun f hf => ?_) (by rfl) hq, cmpT _ (fun d hd => ?_) fun z => ?_⟩
    · obtain ⟨x, as, r, hx⟩ := k3 f hf
      cases x <;> simp only [isT, Bool.false_eq_true] at hx
      cases r with
      | tuple h1 h2 h3 h4 =>
        have := show Looks (model prog w) h' (typeOf (.ref _)) _ from (Looks.ld h1).andThen .now
        rw [h2] at this
        exact this
    · have := hT d hd
      cases d <;> simp only [fst1, Bool.false_eq_true] at this
      rfl
    · exact absurd z (by decide +kernel)
  · have hI : ∀ v ∈ vs, ∃ (i : Int) (t : Tok), v = .int i t := fun v hm => by
      obtain ⟨d, as, r, hx⟩ := reads _ hN v hm
      cases d <;> simp only [isI, Bool.false_eq_true] at hx
      cases r
      exact ⟨_, _, rfl⟩
    have hIs : IntsAre vs (vs.map iv) := ints_iv hI
    refine ⟨oneType', fun Q E hq => ?_, fun p q hm hm' => ?_⟩
    · match vs, hIs, h2 with
      | v1 :: v2 :: rest, hI, _ =>
        rw [keyKind_ints hI]
        exact wpAny_pure hq
      | [], _, h => exact absurd h (by decide)
      | [v], _, h => exact absurd h (by simp)
    · obtain ⟨d, as, hd1, r1⟩ := hv _ hm
      obtain ⟨e, bs, hd2, r2⟩ := hv _ hm'
      have t1 := hN d hd1
      have t2 := hN e hd2
      show wpAny (model prog w) A (keyLt' oneType' p.1 q.1) (fun r s' => s' = { s with heap := h' } ∧ r = ltK h0 p.1 q.1) (fun _ _ => False) { s with heap := h' }
      have e1 : ltK h0 p.1 q.1 = (cmp3 d e == .lt) := by
        unfold ltK
        rw [kOf_eq r1, kOf_eq r2]
      rw [e1]
      cases d <;> simp only [isI, Bool.false_eq_true] at t1
      cases e <;> simp only [isI, Bool.false_eq_true] at t2
      rename_i i j
      generalize p.1 = pv at r1 ⊢
      generalize q.1 = qv at r2 ⊢
      cases r1
      cases r2
      rw [keyLt'_oneType]
      refine oneLt_int ⟨rfl, ?_⟩
      exact cmp_of_ltB (.int i) (.int j) _ rfl rfl rfl
end
end DnSo
namespace Dn
open PySem PySem.Spec PyProof.Rows L2 DnSo
inductive Tri (K : Kx) (F : Hp) : List V → List Value → List D → Prop
  | nil : Tri K F [] [] []
  | cons {x : V} {u : Value} {d : D} {xs : List V} {us : List Value} {ds : List D} (h1 : RelV x u) (h2 : Rp K F x d) (h3 : Tri K F xs us ds) : Tri K F (x :: xs) (u :: us) (d :: ds)
theorem tri_of {K : Kx} {F : Hp} : ∀ {xs : List V} {us : List Value} {ds : List D}, RpAll K F xs ds → Vals xs us → Tri K F xs us ds
  | _, _, _, .nil, h => by cases h; exact .nil
  | _, _, _, .cons a b, h => by
    cases h with
    | cons c d => exact .cons c a (tri_of b d)
theorem Tri.vals {K : Kx} {F : Hp} {xs : List V} {us : List Value} {ds : List D} (t : Tri K F xs us ds) : Vals xs us := by
  induction t with
  | nil => exact .nil
  | cons a b c ih => exact .cons a ih
theorem Tri.all {K : Kx} {F : Hp} {xs : List V} {us : List Value} {ds : List D} (t : Tri K F xs us ds) : RpAll K F xs ds := by
  induction t with
  | nil => exact .nil
  | cons a b c ih => exact .cons b ih
theorem Tri.perm {K : Kx} {F : Hp} {us' us : List Value} (p : us.Perm us') : ∀ {xs : List V} {ds : List D}, Tri K F xs us ds → ∃ xs' ds', Tri K F xs' us' ds' ∧ ds'.Perm ds := by
  induction p with
  | nil => exact fun t => ⟨_, _, t, .refl _⟩
  | cons u p ih =>
    intro xs ds t
    cases t with
    | cons a b c =>
      obtain ⟨xs', ds', t', q⟩ := ih c
      exact ⟨_, _, .cons a b t', q.cons _⟩
  | swap u v l =>
    intro xs ds t
    cases t with
    | cons a b c =>
      cases c with
      | cons a' b' c' => exact ⟨_, _, .cons a' b' (.cons a b c'), .swap _ _ _⟩
  | trans p q ih1 ih2 =>
    intro xs ds t
    obtain ⟨xs', ds', t', q'⟩ := ih1 t
    obtain ⟨xs2, ds2, t2, q2⟩ := ih2 t'
    exact ⟨_, _, t2, q2.trans q'⟩
theorem Tri.mem {K : Kx} {F : Hp} {xs : List V} {us : List Value} {ds : List D} (t : Tri K F xs us ds) : ∀ u ∈ us, ∃ x d, d ∈ ds ∧ RelV x u ∧ Rp K F x d := by
  induction t with
  | nil => simp
  | cons a b c ih =>
    intro u hu
    rcases List.mem_cons.mp hu with e | e
    · subst e
      exact ⟨_, _, List.mem_cons_self, a, b⟩
    · obtain ⟨x, d, h1, h2⟩ := ih u e
      exact ⟨x, d, List.mem_cons_of_mem _ h1, h2⟩
theorem Tri.map {K : Kx} {F : Hp} {k : Value → D} {xs : List V} {us : List Value} {ds : List D} (t : Tri K F xs us ds) : (∀ x u d, d ∈ ds → RelV x u → Rp K F x d → k u = d) → us.map k = ds := by
  induction t with
  | nil => exact fun _ => rfl
  | cons a b c ih =>
    intro h
    rw [List.map_cons, h _ _ _ List.mem_cons_self a b, ih fun x u d hd => h x u d (List.mem_cons_of_mem _ hd)]
def sortF : List D → Option D
  | [.list xs] => if sortOk xs = true then some (.list (xs.mergeSort leD3)) else none
  | _ => none
section
variable {X : Cx}
theorem call_sortD (hu : X.A.units + 65 < cLine) : CallR X (.builtin "sorted") (rFn (cxK X) sortF) := by
  intro pins s σ H xs us Q I rx h
  obtain ⟨F, ds, r, sf, hd, ef, k⟩ := h
  unfold sortF at ef
  split at ef
  · rename_i es
    split at ef
    · rename_i ok
      cases ef
      obtain ⟨v, rfl, hv⟩ := da1 hd
      cases hv with
      | @lst a ws _ h1 d1 =>
        obtain ⟨its, rv, hl, hz⟩ := I.list (sf.seq h1)
        rw [Vals.ref1 rx]
        have T : Tri (cxK X) F ws its es := tri_of d1 rv
        have ok' := ok
        unfold sortOk at ok'
        simp only [Bool.and_eq_true, List.all_eq_true, decide_eq_true_eq] at ok'
        obtain ⟨⟨⟨hlen0, hdd⟩, _⟩, _⟩ := ok'
        have rd : ∀ x u d, d ∈ es → RelV x u → Rp (cxK X) F x d → ∃ as, Reads s.heap u d as := fun x u d hd hr hp => Dp.reads I d x u (rp_dp (dp_mono sf _ _ hp) (hdd d hd).1.2) hr
        refine SrtO.sorted_ord (swoK s.heap) hl.isList (by rw [← rv.length]; exact hz) (fun h2 h₁ a' ha' hk => ?_) fun out h1 h2 => ?_
        · refine sortableK (ds := es) (fun v hm => ?_) ok h2 hk (by show X.A.units + 1 + 1 + 20 < cLine; omega)
          obtain ⟨x, d, h3, h4, h5⟩ := T.mem v hm
          obtain ⟨as, h6⟩ := rd x v d h3 h4 h5
          exact ⟨d, as, h3, h6⟩
        · obtain ⟨xs', ds', T', pm⟩ := T.perm h2.perm.symm
          have ek : out.map (kOf s.heap) = ds' := T'.map fun x u d hd hr hp => by
            obtain ⟨as, h6⟩ := rd x u d (pm.mem_iff.mp hd) hr hp
            exact kOf_eq h6
          have es' : ds' = es.mergeSort leD3 := sort_one (fun d hd => (hdd d hd).1.1) pm (by
            rw [← ek]
            exact List.pairwise_map.mpr h1)
          obtain ⟨ep, he'⟩ := PyProof.Rows.sortedAll_at s.heap its out.toArray
          have hlen : xs'.length ≤ sizeLine := by
            rw [line_eq, da_len T'.all, pm.length_eq]
            exact hlen0
          have hp : H (s.heap.objs.size + 1) = none := I.hok.fresh (Nat.le_succ _)
          rw [← es'] at k
          exact ⟨.ref _, upd H (s.heap.objs.size + 1) (.lst xs'), I.laid (t' := s.toks) (fun _ _ => PyProof.Rows.sortedAll_old) (Nat.le_succ _) ⟨hlen, out, ep, T'.vals, he'⟩, rfl, k _ _ _ (Grow.own sf hp) (own_new sf hp T'.all) hp⟩
    · cases ef
  · cases ef
end
end Dn
set_option maxHeartbeats 2000000
/-! repr of data; the law's own body where nothing is being shown -/
namespace Dn
open PySem PySem.Spec PyProof.Rows L2
def reprOk (d : D) : Bool := d.canLay0 && decide (d.depth ≤ 8) && PyData.showable d && PyData.leavesShort 13 d && decide (d.weight ≤ 2 ^ 20)
def reprF : List D → Option D
  | [.list xs] => if reprOk (.list xs) = true then some (.str (PyData.list xs).shown) else none
  | [.tuple xs] => if reprOk (.tuple xs) = true then some (.str (PyData.tuple xs).shown) else none
  | _ => none
mutual
theorem noDict_of : ∀ d : D, d.canLay0 = true → d.hasDict = false
  | .none, _ => rfl
  | .bool _, _ => rfl
  | .int _, _ => rfl
  | .str _, _ => rfl
  | .list xs, h => by
    rw [PyData.hasDict]
    exact noDict_all xs (by simpa [PyData.canLay0] using h)
  | .tuple xs, h => by
    rw [PyData.hasDict]
    exact noDict_all xs (by simpa [PyData.canLay0] using h)
  | .dict _, h => by simp [PyData.canLay0] at h
theorem noDict_all : ∀ ds : List D, PyData.canLayAll0 ds = true → PyData.hasDictAll ds = false
  | [], _ => rfl
  | d :: ds, h => by
    have c : d.canLay0 = true ∧ PyData.canLayAll0 ds = true := by simpa [PyData.canLayAll0] using h
    rw [PyData.hasDictAll, noDict_of d c.1, noDict_all ds c.2]
    rfl
end
section
variable {X : Cx}
theorem repr_ref {pins : List (Addr × Obj)} {s : Shared} {σ : L2.St} {F H : Hp} {Q : VK} {d : D} {a : Addr} (hg : X.A.guards = some []) (hu : X.A.units + 65 < cLine) (I : Inv X pins σ H s) (sf : Same F H) (hp : Rp (cxK X) F (.ref a) d) (ok : reprOk d = true)
    (k : ∀ v F' H', Grow F H F' H' → Rp (cxK X) F' v (.str d.shown) → Q v H') : wpAny (model X.prog X.w) X.A (call (.builtin "repr") [.ref a]) (fun u s' => ∃ v H', Inv X pins σ H' s' ∧ RelV v u ∧ Q v H') X.xe s := by
  unfold reprOk at ok
  simp only [Bool.and_eq_true, decide_eq_true_eq] at ok
  obtain ⟨⟨⟨⟨c1, c2⟩, c3⟩, c4⟩, c5⟩ := ok
  obtain ⟨as, r⟩ := Dp.reads I d (.ref a) (.ref a) (rp_dp (dp_mono sf _ _ hp) c1) rfl
  refine repr_of_reads' r c3 (fun z => ?_) hg (by omega) (fun _ _ e => e) (fun h' u tk hk => ?_) (PyData.shown_fits (by decide) (by decide) c4 c5)
  · rw [noDict_of d c1] at z
    cases z
  · exact ⟨.str d.shown, H, I.kept (t' := tk) hk, ⟨_, rfl⟩, k _ F H (Grow.refl sf) (.str _)⟩
theorem call_reprD (hg : X.A.guards = some []) (hu : X.A.units + 65 < cLine) : CallR X (.builtin "repr") (rPn (cxK X) reprF) := by
  intro pins s σ H xs us Q I rx h
  obtain ⟨F, ds, r, sf, hd, ef, k⟩ := h
  unfold reprF at ef
  split at ef
  · split at ef
    · rename_i ok
      cases ef
      obtain ⟨v, rfl, hv⟩ := da1 hd
      have hv' := hv
      cases hv' with
      | lst h1 d1 =>
        rw [Vals.ref1 rx]
        exact repr_ref hg hu I sf hv ok k
    · cases ef
  · split at ef
    · rename_i ok
      cases ef
      obtain ⟨v, rfl, hv⟩ := da1 hd
      have hv' := hv
      cases hv' with
      | tup h1 d1 =>
        rw [Vals.ref1 rx]
        exact repr_ref hg hu I sf hv ok k
    · cases ef
  · cases ef
theorem bb_repr : bootBuiltins "repr" = some (.builtin "repr") := by decide +kernel
theorem bb_sorted : bootBuiltins "sorted" = some (.builtin "sorted") := by decide +kernel
theorem bb_sum : bootBuiltins "sum" = some (.builtin "sum") := by decide +kernel
end

/-! ### the law's own body, where nothing is being shown -/
section
variable {P : Program} {w : World} {K : PySem.W.Frag} {mg mb : Str → Option Value}
/-- the script as the layer sees it -/
theorem script_st {s₁ : Shared} {a : Addr} {vs : List Value} {ns : List Int} (KX : K.In s₁.heap) (ha : s₁.heap.get? a = some { cls := .type "list", data := .seq vs.toArray }) (hi : IntsAre vs ns) (hl : ns.length ≤ sizeLine) :
    ∃ H : Hp, Only H ∧ SqL K H a (ns.map V.int) ∧ HOk P w H s₁.heap ∧ (∀ b, H b ≠ none → b = a) ∧ (H a ≠ none → K.lookup a = none) := by
  have rv := vals_ints hi
  have lenV := hi.length
  by_cases hk : K.lookup a = none
  · have ev : ∀ {b : Addr} {u : HO}, (if b = a then some (HO.frz { cls := .type "list", data := .seq vs.toArray } (.lst (ns.map V.int))) else none) = some u → b = a ∧ u = .frz { cls := .type "list", data := .seq vs.toArray } (.lst (ns.map V.int)) := fun {b u} h => by
      by_cases z : b = a
      · rw [if_pos z] at h
        exact ⟨z, (Option.some.inj h).symm⟩
      · rw [if_neg z] at h
        cases h
    refine ⟨fun b => if b = a then some (.frz { cls := .type "list", data := .seq vs.toArray } (.lst (ns.map V.int))) else none, fun b => ?_, .inl (.inr ⟨_, if_pos rfl⟩), fun b u z => ?_, fun b z => ?_, fun _ => hk⟩
    · by_cases z : b = a
      · exact .inr ⟨_, _, if_pos z⟩
      · exact .inl (if_neg z)
    · obtain ⟨rfl, rfl⟩ := ev z
      exact ⟨ha, by rw [List.length_map]; exact hl, vs, _, rv, ha⟩
    · by_cases y : b = a
      · exact y
      · exact absurd (if_neg y) z
  · obtain ⟨o, hk⟩ := Option.ne_none_iff_exists'.mp hk
    have e := KX a o hk
    rw [ha] at e
    cases e
    exact ⟨fun _ => none, fun _ => .inl rfl, .inr ⟨_, vs.toArray, _, hk, rfl, rfl, rfl, by rw [List.size_toArray, lenV]; exact hl, by simpa using rv⟩, fun b u z => (by cases z), fun b z => absurd rfl z, fun z => absurd rfl z⟩
theorem law_body {k : Nat} {f a : Addr} {fd : FuncData} {st : Stmt} {N : List Str} {g : Sd} {s₁ : Shared} {vs : List Value} {ns : List Int}
    (Fn : Fun K "law" "law" st f fd) (S : FnScope N ["script"] (defScope st)) (KX : K.In s₁.heap) (hns : s₁.heap.Ns mainGlobals mg) (hb : s₁.heap.Ns builtinsNs mb) (hbb : ∀ x : Str, x ≠ "__name__" → mb x = bootBuiltins x) (hlim : s₁.heap.NoLimit) (hg : s₁.gens = #[])
    (ha : s₁.heap.get? a = some { cls := .type "list", data := .seq vs.toArray }) (hi : IntsAre vs ns) (hl : ns.length ≤ 63) (hr : Room (k + 1) callerA) (hbind : ∀ (s : Shared) (u : Value), BindsTo s fd ⟨[u], []⟩ [("script", u)])
    (body : ∀ (base : Heap) (cdv : Value) (s : Shared) (H : Hp) (E : XK), K.In base → base.Ns mainGlobals mg → DSs (cxOf CX0 P w K mg base N "law" (defScope st) f cdv callerA [] s H E).nox (defBody st) g)
    (ok : runV N.length g [.list (ns.map PyData.int)] = some (.bool true)) :
    codeAny (model P w) callerA (.call (.ref f) ⟨[.ref a], []⟩) (fun r s' => r = .ok (.ret (.bool true)) ∧ OldK s₁.heap s'.heap ∧ s'.os = s₁.os ∧ AllBare s'.gens) s₁ := by
  obtain ⟨H, hO, hS, hok, hA, hK⟩ := script_st (P := P) (w := w) KX ha hi (Nat.le_trans hl (by decide))
  have base_of : ∀ {b : Addr} {o : Obj}, s₁.heap.get? b = some o → H b = none → (hidT s₁.heap H).get? b = some o := fun e n => hidT_get e n
  have noA : ∀ {b : Addr} {o : Obj} {es : Array DictEntry} {ep : Nat}, s₁.heap.get? b = some o → o.data = .dict es ep → H b = none := fun {b o es ep} e d => by
    by_cases q : H b = none
    · exact q
    · have e' := hA b q
      subst e'
      rw [ha] at e
      cases e
      cases d
  have nsK : ∀ {b : Addr} {m : Str → Option Value}, s₁.heap.Ns b m → (hidT s₁.heap H).Ns b m := fun {b m} ⟨o, es, ep, e, d, r⟩ => ⟨o, es, ep, base_of e (noA e d), d, r⟩
  have hKb : K.In (hidT s₁.heap H) := fun b o e => base_of (KX b o e) (by
    by_cases q : H b = none
    · exact q
    · have e' := hA b q
      subst e'
      rw [hK q] at e
      cases e)
  have hM : Mod K mg (hidT s₁.heap H) := ⟨hKb, nsK hns, ⟨mb, nsK hb, hbb⟩, let ⟨mc, h1, h2⟩ := hlim; ⟨mc, nsK h1, h2⟩⟩
  have e0 : Env0 P w K mg (hidT s₁.heap H) callerA [] s₁ H := ⟨rfl, hM, fun b o e => of_hidT e, Nat.le_of_eq (hidT_size _ _), trivial, fun b hb => absurd (show b ∈ ([] : List Addr) from hb) (by simp), hok, .of_eq hg⟩
  obtain ⟨oc, od, kV, doc, pm, an, cdv, ct, osl, rfl, lk, hcd⟩ := Fn.ex
  have hkind : ∀ y ∈ ([("script" : Str)] : List Str).zip [Value.ref a], (defScope st).names.lookup y.1 = some .local ∨ ((defScope st).names.lookup y.1 = some .cell ∧ ((cellsFrom (s₁.heap.objs.size + 1) (defScope st).names []).lookup y.1).isSome = true) := fun ⟨n, v⟩ hy => by
    rcases S.par n (List.of_mem_zip hy).1 with q | q
    · exact .inl q
    · exact .inr ⟨q, PySem.W.cellsFrom_some _ _ _ (.inl q)⟩
  have hbody := body (hidT s₁.heap H) cdv s₁ H (fun _ _ _ => False) hKb (nsK hns)
  have q0 : tDS (Kx.mk K P w) g { nx := fun _ _ => False, rt := fun v _ => v = V.bl true } (L2.start N [.ref a]) H := by
    obtain ⟨⟨fl, ρ'⟩, e1, e2⟩ := bind_some ok
    refine ⟨H, envV N.length [.list (ns.map PyData.int)], fl, ρ', st_vals (Same.refl H) (.cons (.lst hS (da_ints ns)) .nil), e1, fun σ' F' H' p s' => ?_⟩
    cases fl with
    | nx => cases e2
    | ret d =>
      cases e2
      exact fun v rv => by
        cases rv
        rfl
    | rof d => cases e2
    | brk => cases e2
    | cnt => cases e2
  refine codeAny_mono (R := CR CX0 [] P w H s₁ (fun v _ => v = .bl true) fun _ _ _ => False) ?_ fun r s' h => ?_
  · refine codeAny_call_function hr.depth (KX _ _ lk) rfl S.co S.gen rfl (PySem.W.codeRec_of KX hcd) (hbind s₁ (.ref a) _ _ _ _ ?_)
    refine wpAny_newFunctionEnv_cells S.kind hkind fun env he s1 x => ?_
    subst he
    refine ⟨hlim.keeps x.toInCall.keep, codeAny_func ?_⟩
    have I := inv_start (CX := CX0) (E := fun _ _ _ => False) (us := [.ref a]) (vs := [.ref a]) S hr.hd e0 rfl (.cons rfl .nil) x
    refine wpAny_mono (hbody.nox.run [] s1 (L2.start N [.ref a]) H _ I q0) (fun fl s' hs => ?_) fun e s' hs => hs
    cases fl with
    | next =>
      obtain ⟨_, _, _, q⟩ := hs
      exact q.elim
    | brk =>
      obtain ⟨_, _, _, q⟩ := hs
      exact False.elim q
    | cont =>
      obtain ⟨_, _, _, q⟩ := hs
      exact False.elim q
    | ret u =>
      obtain ⟨v, σ', H', J, rv, q⟩ := hs
      exact ⟨v, H', J.os, J.bare, J.base, J.hok, rv, q⟩
  · cases r with
    | error e => exact (show False from h).elim
    | ok fl =>
      cases fl with
      | next => exact False.elim h
      | brk => exact False.elim h
      | cont => exact False.elim h
      | ret u =>
        obtain ⟨v, H', os, bare, un, hok', rv, q⟩ := h
        have q' : v = .bl true := q
        subst q'
        obtain rfl : u = Value.bool true := rv
        refine ⟨rfl, OldK.of_keep fun b o e => ?_, os, bare⟩
        by_cases z : H b = none
        · exact un.keep b o e z (by intro y; exact absurd (show b ∈ ([] : List Addr) from y) (by simp)) (by simp)
        · rcases hO b with y | ⟨ob, xs, y⟩
          · exact absurd y z
          · have z2 := un.frzs b ob _ y
            obtain ⟨e1, _⟩ := hok b _ y
            obtain ⟨e2, _⟩ := hok' b _ z2
            rw [e] at e1
            cases e1
            exact e2
/-- the last row: a law whose own body is read where nothing is being shown -/
theorem walk_body {l : PySem.W.OpenLaw} {k : Nat} {q : Program} {loose : List Str} {XP : (Str → Option Value) → Heap → Prop} {YP : World → Heap → Prop} {d : DefRec} {K : Params → PySem.W.Frag} {st : Stmt} {N : List Str} {g : Sd}
    (hn : l.most = some 63) (hdf : d.params.defaults = []) (hr : Room (k + 1) callerA) (hY : ∀ (w : World) (h : Heap), YP w h → (K w.params).In h) (S : FnScope N ["script"] (defScope st))
    (F : ∀ (w : World) (mg : Str → Option Value) (fa : Addr) (h : Heap), (K w.params).In h → h.Ns mainGlobals mg → mg d.name = some (.ref fa) → ∃ fd : FuncData, Fun (K w.params) "law" "law" st fa fd ∧ (∀ (s : Shared) (u : Value), BindsTo s fd ⟨[u], []⟩ [("script", u)]) ∧
      ∀ (base : Heap) (cdv : Value) (s : Shared) (H : Hp) (E : XK), (K w.params).In base → base.Ns mainGlobals mg → DSs (cxOf CX0 l.prog w (K w.params) mg base N "law" (defScope st) fa cdv callerA [] s H E).nox (defBody st) g)
    (ok : ∀ ns : List Int, ns.length ≤ 63 → runV N.length g [.list (ns.map PyData.int)] = some (.bool true)) : PySem.W.WalkO q loose XP YP l.row.toRowW d [] (fun f vs => PySem.call f vs) := by
  refine Att.attach_call hn hdf fun w s₀ s₁ mg mb fa o pm cd doc a vs ns G Y ho hd hcd hmg hobj hints hlen hg => ?_
  have KX := hY w _ Y
  obtain ⟨fd, hF, hb, hB⟩ := F w mg fa _ KX G.T.g hmg
  exact law_body hF S KX G.T.g G.T.b G.T.builtins G.T.nolimit hg hobj hints hlen hr hb hB (ok ns hlen)
end
end Dn
set_option maxHeartbeats 2000000
/-! comparisons with a list of one's own, reversed, sums -/
namespace Dn
open PySem PySem.Spec PyProof.Rows L2 RT
section
variable {X : Cx} {tg e a b : Expr} {pos p py : Pos} {x y : Str}
/-- an operation on a list of one's own and a datum: what comes of it is no reference -/
def gOpBL (f : D → D → Option D) (i : Nat) (g : Md D) : Md D := fun ρ => (peek ρ i).bind fun _ => (g ρ).bind fun p => (peek p.2 i).bind fun d => (f d p.1).bind fun r => if flatD r = true then some (r, p.2) else none
theorem opBL_q {f : D → D → Option D} {i : Nat} {g : Md D} {σ : L2.St} {H : Hp} {Q : VK} (q : tD (cxK X) (gOpBL f i g) σ H Q) : tOp (rP2 (cxK X) f) (tVar i) (tD (cxK X) g) σ H Q := by
  obtain ⟨F, ρ, r, ρ', s, eg, k⟩ := q
  obtain ⟨d0, e0, eg⟩ := bind_some eg
  obtain ⟨⟨c, ρ1⟩, e1, eg⟩ := bind_some eg
  obtain ⟨d, e2, eg⟩ := bind_some eg
  obtain ⟨r', e3, eg⟩ := bind_some eg
  simp only at e2 e3 eg
  split at eg
  · rename_i fl
    cases eg
    obtain ⟨v, ev, _⟩ := peek_dp s e0
    refine ⟨v, ev, F, ρ, c, _, s, e1, fun w F1 H1 p1 s1 r1 => ?_⟩
    obtain ⟨v', ev', rv⟩ := peek_dp s1 e2
    rw [ev] at ev'
    cases ev'
    refine ⟨H1, d, c, r, Same.refl _, rv, dp_mono s1.sub _ _ r1, e3, fun u F2 H2 gr r2 => ?_⟩
    have gr' : Grow F1 H1 F1 H2 := ⟨Same.refl _, gr.hh, s1.sub.trans gr.hh, fun _ _ _ => rfl⟩
    exact k u F1 H2 (p1.trans (gr'.stp _ _)) (s1.grow gr') (flat_dp r2 fl)
  · cases eg
theorem db_cmpL {op : CmpOp} {f : D → D → Option D} (i : Nat) {g : Md D} (ho : OpR X (compareOp op) (rP2 (cxK X) f)) (hb : DE X b g) (hm : behindInMarks op b = false) (hN : X.N[i]? = some y := by rfl) (hy : Vis X.env.scope y := by first | exact Or.inl rfl | exact Or.inr (Or.inl rfl) | exact Or.inr (Or.inr rfl))
    (hdy : (y == ("__debug__" : Str)) = false := by decide) (hcd : (y == ("__classdict__" : Str)) = false := by decide) : DE X (.Compare (.Name y py) [op] [b] pos) (gOpBL f i g) :=
  pe_imp (pe_cmpR ho (pe_var hN hy hdy hcd) hb hm) fun _ _ _ q => opBL_q q
theorem dbt_cmpL {op : CmpOp} {f : D → D → Option D} (i : Nat) {g : Md D} (ho : OpR X (compareOp op) (rP2 (cxK X) f)) (hb : DE X b g) (hm : behindInMarks op b = false) (hN : X.N[i]? = some y := by rfl) (hy : Vis X.env.scope y := by first | exact Or.inl rfl | exact Or.inr (Or.inl rfl) | exact Or.inr (Or.inr rfl))
    (hdy : (y == ("__debug__" : Str)) = false := by decide) (hcd : (y == ("__classdict__" : Str)) = false := by decide) : DT X (.Compare (.Name y py) [op] [b] pos) (gTst (gOpBL f i g)) :=
  pt_imp (pt_cmpR ho (pe_var hN hy hdy hcd) hb hm) fun σ H Q q => opBL_q (tst_q q)

theorem dbt_in (i : Nat) {g : Md D} (hu : X.A.units + 65 < cLine) (ha : DE X a g) (hN : X.N[i]? = some y := by rfl) (hy : Vis X.env.scope y := by first | exact Or.inl rfl | exact Or.inr (Or.inl rfl) | exact Or.inr (Or.inr rfl)) (hdy : (y == ("__debug__" : Str)) = false := by decide) (hcd : (y == ("__classdict__" : Str)) = false := by decide) (hm : behindInMarks .In (.Name y py) = false := by rfl) : DT X (.Compare a [.In] [.Name y py] pos) (gTst (gInB false i g)) :=
  pt_imp (pt_cmpR ((op_inD hu).or op_in_seq) ha (pe_var hN hy hdy hcd) hm) fun σ H Q q => by
    have q := tst_q q
    obtain ⟨F, ρ, d, ρ', s, eg, k⟩ := q
    obtain ⟨⟨d1, ρ1⟩, e1, eg1⟩ := bind_some eg
    obtain ⟨e, e2, eg2⟩ := bind_some eg1
    obtain ⟨b, e3, eg3⟩ := bind_some eg2
    cases eg3
    refine ⟨F, ρ, d1, _, s, e1, fun v F1 H1 p1 s1 r1 => ?_⟩
    obtain ⟨w, ew, rw'⟩ := peek_dp s1 e2
    exact ⟨w, ew, in_any hu (dp_mono s1.sub _ _ r1) rw' e3 (k _ F1 H1 p1 s1 (.bl _))⟩
theorem dbt_nin (i : Nat) {g : Md D} (hu : X.A.units + 65 < cLine) (ha : DE X a g) (hN : X.N[i]? = some y := by rfl) (hy : Vis X.env.scope y := by first | exact Or.inl rfl | exact Or.inr (Or.inl rfl) | exact Or.inr (Or.inr rfl)) (hdy : (y == ("__debug__" : Str)) = false := by decide) (hcd : (y == ("__classdict__" : Str)) = false := by decide) (hm : behindInMarks .NotIn (.Name y py) = false := by rfl) : DT X (.Compare a [.NotIn] [.Name y py] pos) (gTst (gInB true i g)) :=
  pt_imp (pt_cmpR ((op_notInD hu).or op_notIn_seq) ha (pe_var hN hy hdy hcd) hm) fun σ H Q q => by
    have q := tst_q q
    obtain ⟨F, ρ, d, ρ', s, eg, k⟩ := q
    obtain ⟨⟨d1, ρ1⟩, e1, eg1⟩ := bind_some eg
    obtain ⟨e, e2, eg2⟩ := bind_some eg1
    obtain ⟨b, e3, eg3⟩ := bind_some eg2
    cases eg3
    refine ⟨F, ρ, d1, _, s, e1, fun v F1 H1 p1 s1 r1 => ?_⟩
    obtain ⟨w, ew, rw'⟩ := peek_dp s1 e2
    exact ⟨w, ew, nin_any hu (dp_mono s1.sub _ _ r1) rw' e3 (k _ F1 H1 p1 s1 (.bl _))⟩

/-! reversed -/
def revOf (d : D) : Option (List D) := match d with
  | .list xs => some xs.reverse
  | .tuple xs => some xs.reverse
  | _ => none
def gReve (g : Md D) : Md (List D) := fun ρ => (g ρ).bind fun p => (revOf p.1).bind fun ds => some (ds, p.2)
theorem rev_get {α : Type} {l : List α} {i : Nat} (h : i < l.length) : l.reverse[i]? = l[l.length - 1 - i]? := List.getElem?_reverse h
theorem it_rev {K : Kx} {F : Hp} {a : Addr} {vs : List V} {ds : List D} (h : SqL K F a vs) (r : RpAll K F vs ds) : ItOk K F (Itv K a vs.length) ds.reverse := fun F1 H s1 s2 i => by
  have hH := (s1.trans s2).seq h
  have hl := da_len r
  refine ⟨fun d e => ?_, fun hl' => by rw [List.length_reverse] at hl'; exact (by rw [hl]; exact hl' : vs.length ≤ i)⟩
  have hi : i < ds.length := by
    have := (List.getElem?_eq_some_iff.mp e).1
    rw [List.length_reverse] at this
    exact this
  rw [rev_get hi] at e
  obtain ⟨v, e1, rv⟩ := da_at r e
  rw [← hl] at e1
  refine ⟨⟨by rw [hl]; exact hi, vs, v, hH, e1⟩, fun y H' hy => ?_⟩
  obtain ⟨rfl, hy⟩ := hy
  have e2 := (hy vs hH).symm.trans e1
  cases e2
  exact ⟨F1, Grow.refl s2, dp_mono s1 _ _ rv⟩
theorem it_revT {K : Kx} {F : Hp} {a : Addr} {vs : List V} {ds : List D} (h : SqT K F a vs) (r : RpAll K F vs ds) : ItOk K F (ItvT K a vs.length) ds.reverse := fun F1 H s1 s2 i => by
  have hH := seqT_same (s1.trans s2) h
  have hl := da_len r
  refine ⟨fun d e => ?_, fun hl' => by rw [List.length_reverse] at hl'; exact (by rw [hl]; exact hl' : vs.length ≤ i)⟩
  have hi : i < ds.length := by
    have := (List.getElem?_eq_some_iff.mp e).1
    rw [List.length_reverse] at this
    exact this
  rw [rev_get hi] at e
  obtain ⟨v, e1, rv⟩ := da_at r e
  rw [← hl] at e1
  refine ⟨⟨by rw [hl]; exact hi, vs, v, hH, e1⟩, fun y H' hy => ?_⟩
  obtain ⟨rfl, hy⟩ := hy
  have e2 := (hy vs hH).symm.trans e1
  cases e2
  exact ⟨F1, Grow.refl s2, dp_mono s1 _ _ rv⟩
theorem di_reve {g : Md D} (hg : Gl X "reversed") (hm : X.mg "reversed" = none) (he : DE X e g) (hs : starEach [e] X.env = (false, eval e X.env) :: starEach [] X.env := by rfl) : DI X tg (.Call (.Name "reversed" p) [e] [] pos) (gReve g) :=
  pi_imp (pi_revA hg hm he hs) fun σ H R q => by
    obtain ⟨F, ρ, ds, ρ', s, eg, k⟩ := q
    obtain ⟨⟨d, ρ1⟩, e1, eg1⟩ := bind_some eg
    obtain ⟨z, e2, eg2⟩ := bind_some eg1
    cases eg2
    refine ⟨F, ρ, d, _, s, e1, fun v F1 H1 p1 s1 r1 => ?_⟩
    simp only at e2
    cases d with
    | list xs =>
      cases e2
      cases r1 with
      | @lst a vs _ h1 d1 => exact ⟨a, vs, rfl, .inl ⟨s1.sub.seq h1, k _ F1 H1 p1 s1 (it_rev h1 d1)⟩⟩
    | tuple xs =>
      cases e2
      cases r1 with
      | @tup a vs _ h1 d1 => exact ⟨a, vs, rfl, .inr ⟨seqT_same s1.sub h1, k _ F1 H1 p1 s1 (it_revT h1 d1)⟩⟩
    | none => cases e2
    | bool _ => cases e2
    | int _ => cases e2
    | str _ => cases e2
    | dict _ => cases e2

/-! sums, the greatest, the least of a list of whole numbers -/
def numsOf : List D → Option (List Int)
  | [] => some []
  | .int i :: r => (numsOf r).bind fun ns => some (i :: ns)
  | _ => none
theorem numsOf_map : ∀ {ds : List D} {ns : List Int}, numsOf ds = some ns → ds = ns.map PyData.int
  | [], _, h => by cases h; rfl
  | .int i :: r, _, h => by
    obtain ⟨ns, e1, e2⟩ := bind_some h
    cases e2
    rw [numsOf_map e1]
    rfl
  | .none :: _, _, h => by cases h
  | .bool _ :: _, _, h => by cases h
  | .str _ :: _, _, h => by cases h
  | .list _ :: _, _, h => by cases h
  | .tuple _ :: _, _, h => by cases h
  | .dict _ :: _, _, h => by cases h
theorem nums_map : ∀ ns : List Int, numsOf (ns.map PyData.int) = some ns
  | [] => rfl
  | n :: ns => by
    show (numsOf (ns.map PyData.int)).bind (fun r => some (n :: r)) = _
    rw [nums_map ns]
    rfl
def mostI : List Int → Option Int
  | [] => none
  | n :: ns => some (ns.foldl (fun m x => if x > m then x else m) n)
def leastI : List Int → Option Int
  | [] => none
  | n :: ns => some (ns.foldl (fun m x => if x < m then x else m) n)
def sumF : List D → Option D
  | [.list xs] => (numsOf xs).bind fun ns => some (.int ns.sum)
  | _ => none
def max1F : List D → Option D
  | [.list xs] => (numsOf xs).bind fun ns => (mostI ns).bind fun m => some (.int m)
  | _ => none
def min1F : List D → Option D
  | [.list xs] => (numsOf xs).bind fun ns => (leastI ns).bind fun m => some (.int m)
  | _ => none
theorem fold_max : ∀ (ns : List Int) (n : Int), (ns.foldl (fun m x => if x > m then x else m) n ∈ n :: ns) ∧ ∀ y ∈ n :: ns, y ≤ ns.foldl (fun m x => if x > m then x else m) n
  | [], n => ⟨by simp, by simp⟩
  | x :: ns, n => by
    rw [List.foldl_cons]
    obtain ⟨h1, h2⟩ := fold_max ns (if x > n then x else n)
    refine ⟨?_, fun y hy => ?_⟩
    · rcases List.mem_cons.mp h1 with e | e
      · rw [e]
        by_cases z : x > n
        · rw [if_pos z]; simp
        · rw [if_neg z]; simp
      · simp [e]
    · have h3 := h2 _ List.mem_cons_self
      rcases List.mem_cons.mp hy with e | e
      · subst e
        refine Int.le_trans ?_ h3
        split <;> omega
      · rcases List.mem_cons.mp e with e | e
        · subst e
          refine Int.le_trans ?_ h3
          split <;> omega
        · exact h2 y (List.mem_cons_of_mem _ e)
theorem fold_min : ∀ (ns : List Int) (n : Int), (ns.foldl (fun m x => if x < m then x else m) n ∈ n :: ns) ∧ ∀ y ∈ n :: ns, ns.foldl (fun m x => if x < m then x else m) n ≤ y
  | [], n => ⟨by simp, by simp⟩
  | x :: ns, n => by
    rw [List.foldl_cons]
    obtain ⟨h1, h2⟩ := fold_min ns (if x < n then x else n)
    refine ⟨?_, fun y hy => ?_⟩
    · rcases List.mem_cons.mp h1 with e | e
      · rw [e]
        by_cases z : x < n
        · rw [if_pos z]; simp
        · rw [if_neg z]; simp
      · simp [e]
    · have h3 := h2 _ List.mem_cons_self
      rcases List.mem_cons.mp hy with e | e
      · subst e
        refine Int.le_trans h3 ?_
        split <;> omega
      · rcases List.mem_cons.mp e with e | e
        · subst e
          refine Int.le_trans h3 ?_
          split <;> omega
        · exact h2 y (List.mem_cons_of_mem _ e)
theorem call_sumD (hc : X.calm = true) : CallR X (.builtin "sum") (rPn (cxK X) sumF) := by
  intro pins s σ H xs us Q I rx h
  obtain ⟨F, ds, r, sf, hd, ef, k⟩ := h
  unfold sumF at ef
  split at ef
  · obtain ⟨ns, e1, e2⟩ := bind_some ef
    cases e2
    obtain ⟨v, rfl, hv⟩ := da1 hd
    cases hv with
    | @lst a ws _ h1 d1 =>
      rw [numsOf_map e1] at d1
      have e3 := da_of_ints ns d1
      subst e3
      exact cr_sum hc pins s σ H _ us Q I rx ⟨a, ns, rfl, sf.seq h1, k _ F H (Grow.refl sf) (.int _)⟩
  · cases ef
theorem call_max1 (hc : X.calm = true) : CallR X (.builtin "max") (rPn (cxK X) max1F) := by
  intro pins s σ H xs us Q I rx h
  obtain ⟨F, ds, r, sf, hd, ef, k⟩ := h
  unfold max1F at ef
  split at ef
  · obtain ⟨ns, e1, e2⟩ := bind_some ef
    obtain ⟨m, e4, e5⟩ := bind_some e2
    cases e5
    obtain ⟨v, rfl, hv⟩ := da1 hd
    cases hv with
    | @lst a ws _ h1 d1 =>
      rw [numsOf_map e1] at d1
      have e3 := da_of_ints ns d1
      subst e3
      cases ns with
      | nil => cases e4
      | cons n ns =>
        cases e4
        obtain ⟨f1, f2⟩ := fold_max ns n
        refine cr_max hc pins s σ H _ us Q I rx ⟨a, n :: ns, rfl, sf.seq h1, by simp, fun m h3 h4 => ?_⟩
        have e6 : m = ns.foldl (fun m x => if x > m then x else m) n := Int.le_antisymm (f2 m h3) (h4 _ f1)
        rw [e6]
        exact k _ F H (Grow.refl sf) (.int _)
  · cases ef
theorem call_min1 (hc : X.calm = true) : CallR X (.builtin "min") (rPn (cxK X) min1F) := by
  intro pins s σ H xs us Q I rx h
  obtain ⟨F, ds, r, sf, hd, ef, k⟩ := h
  unfold min1F at ef
  split at ef
  · obtain ⟨ns, e1, e2⟩ := bind_some ef
    obtain ⟨m, e4, e5⟩ := bind_some e2
    cases e5
    obtain ⟨v, rfl, hv⟩ := da1 hd
    cases hv with
    | @lst a ws _ h1 d1 =>
      rw [numsOf_map e1] at d1
      have e3 := da_of_ints ns d1
      subst e3
      cases ns with
      | nil => cases e4
      | cons n ns =>
        cases e4
        obtain ⟨f1, f2⟩ := fold_min ns n
        refine cr_min hc pins s σ H _ us Q I rx ⟨a, n :: ns, rfl, sf.seq h1, by simp, fun m h3 h4 => ?_⟩
        have e6 : m = ns.foldl (fun m x => if x < m then x else m) n := Int.le_antisymm (h4 _ f1) (f2 m h3)
        rw [e6]
        exact k _ F H (Grow.refl sf) (.int _)
  · cases ef
end
end Dn
set_option maxHeartbeats 2000000
/-! dicts of one's own whose keys are tuples -/
namespace Dn
open PySem PySem.Spec PyProof.Rows L2
mutual
theorem nis {h : Heap} : ∀ (d : D) (k : NestedKey) (v : Value) (as : List Addr), nkOf d = some k → Reads h v d as → NestedIs h k v
  | .none, k, v, as, e, r => by
    cases e
    cases r
    exact .none
  | .int i, k, v, as, e, r => by
    cases e
    cases r
    exact .int _ _
  | .str x, k, v, as, e, r => by
    cases e
    cases r
    exact .text _ _
  | .tuple xs, k, v, as, e, r => by
    obtain ⟨ks, e1, e2⟩ := bind_some (show (nkAll xs).bind (fun ks => some (NestedKey.tup ks)) = some k from e)
    cases e2
    cases r with
    | tuple h1 h2 h3 h4 => exact .tup h1 h2 h3 (nisA xs ks _ _ e1 h4)
  | .bool _, _, _, _, e, _ => by cases e
  | .list _, _, _, _, e, _ => by cases e
  | .dict _, _, _, _, e, _ => by cases e
theorem nisA {h : Heap} : ∀ (ds : List D) (ks : List NestedKey) (vs : List Value) (as : List Addr), nkAll ds = some ks → ReadsAll h vs ds as → NestedAll h ks vs
  | [], ks, vs, as, e, r => by
    cases e
    cases r
    exact .nil
  | d :: ds, ks, vs, as, e, r => by
    obtain ⟨k, e1, e⟩ := bind_some (show (nkOf d).bind (fun k => (nkAll ds).bind fun ks => some (k :: ks)) = some ks from e)
    obtain ⟨ks', e2, e⟩ := bind_some e
    cases e
    cases r with
    | cons r1 r2 => exact .cons (nis d k _ _ e1 r1) (nisA ds ks' _ _ e2 r2)
end
abbrev PR : NestedKey × Addr × V → NestedKey × Addr × Value → Prop := fun p q => p.1 = q.1 ∧ p.2.1 = q.2.1 ∧ RelV p.2.2 q.2.2
theorem nkD_some {d : D} {k : NestedKey} (h : nkD d = some k) : nkOf d = some k ∧ k.depth ≤ 8 ∧ d.canLay0 = true := by
  obtain ⟨k', e1, e2⟩ := bind_some h
  split at e2
  · rename_i hc
    cases e2
    exact ⟨e1, hc.1, hc.2⟩
  · cases e2
theorem rpN_keys {K : Kx} {F : Hp} : ∀ {es : List (D × D)} {xs : List (NestedKey × Addr × V)} {ys : List (NestedKey × Addr × Value)}, RpN K F xs es → Paired PR xs ys → ∀ y ∈ ys, ∃ dk, nkD dk = some y.1 ∧ Rp K F (.ref y.2.1) dk
  | [], _, ys, r, p, y, hy => by
    cases r
    cases p
    cases hy
  | (dk, dv) :: es, _, ys, r, p, y, hy => by
    cases r with
    | cons hk h1 h2 h3 =>
      cases p with
      | cons a b =>
        rcases List.mem_cons.mp hy with e | e
        · subst e
          obtain ⟨a1, a2, a3⟩ := a
          simp only at a1 a2
          rw [← a1, ← a2]
          exact ⟨dk, hk, h1⟩
        · exact rpN_keys h3 b y e
section
variable {X : Cx} {pos : Pos}
/-- the dict at the heap -/
theorem dict_at {pins : List (Addr × Obj)} {s : Shared} {σ : L2.St} {F H : Hp} {a : Addr} {xs : List (NestedKey × Addr × V)} {es : List (D × D)} (I : Inv X pins σ H s) (sf : Same F H) (hH : H a = some (dicO (cxK X) a xs)) (r : RpN (cxK X) F xs es) :
    (a == sysModules) = false ∧ ∃ ys, Paired PR xs ys ∧ s.heap.DictOfH (nestedKind X.prog X.w) a ys := by
  obtain ⟨⟨hm, ys, p, o, es', ep, e1, e2, e3, e4, e5⟩, _, _⟩ := I.hok a _ hH
  refine ⟨hm, ys, p, o, es', ep, e1, e2, e3, e4, fun y hy => ?_, e5⟩
  obtain ⟨dk, h1, h2⟩ := rpN_keys r p y hy
  obtain ⟨n1, n2, n3⟩ := nkD_some h1
  obtain ⟨as, rd⟩ := Dp.reads I dk (.ref y.2.1) (.ref y.2.1) (rp_dp (dp_mono sf _ _ h2) n3) rfl
  exact ⟨nis dk _ _ _ n1 rd, n2⟩
/-- .. and back: what the object at a must be -/
theorem dicO_ok {P : Program} {w : World} {K : PySem.W.Frag} {H : Hp} {h : Heap} {a : Addr} {xs : List (NestedKey × Addr × V)} {ys : List (NestedKey × Addr × Value)} (hm : (a == sysModules) = false) (p : Paired PR xs ys) (d : h.DictOfH (nestedKind P w) a ys) : ObjOk P w H h a (dicO ⟨K, P, w⟩ a xs) := by
  obtain ⟨o, es', ep, e1, e2, e3, e4, _, e5⟩ := d
  refine ⟨⟨hm, ys, p, o, es', ep, e1, e2, e3, e4, e5⟩, ⟨o, e1⟩, fun h1 h2 q k => ?_⟩
  obtain ⟨hm', ys', p', o', es2, ep', f1, f2⟩ := q
  exact ⟨hm', ys', p', o', es2, ep', k _ f1, f2⟩
/-- {} -/
def gNewD : Md D := fun ρ => some (.dict [], ρ)
theorem df_new : DF X (.Dict [] [] pos) gNewD := ⟨fun pins s σ H Q I h => by
  obtain ⟨F, ρ, d, ρ', st, eg, k⟩ := h
  cases eg
  have hp : H s.heap.objs.size = none := I.hok.fresh (Nat.le_refl _)
  have hb : (s.heap.objs.size == sysModules) = false := beq_eq_false_iff_ne.mpr (Ne.symm (Nat.ne_of_lt I.big))
  have new : ObjOk X.prog X.w (upd H s.heap.objs.size (dicO (cxK X) s.heap.objs.size [])) (s.heap.push { cls := .type "dict", data := .dict #[] }) s.heap.objs.size (dicO (cxK X) s.heap.objs.size []) :=
    dicO_ok hb .nil ⟨_, #[], 0, Heap.get?_push_size _ rfl, ⟨rfl, rfl, rfl⟩, rfl, rfl, by simp, List.nodup_nil⟩
  have gr : Grow F H F (upd H s.heap.objs.size (dicO (cxK X) s.heap.objs.size [])) := Grow.own st.sub hp
  refine wpAny_Dict_empty ⟨.ref s.heap.objs.size, _, I.laid (a := s.heap.objs.size) (t' := s.toks) (fun _ _ q => Heap.get?_push_of_some _ q) (Nat.le_refl _) new, rfl, ?_⟩
  exact k _ _ _ (gr.stp σ ρ) (st.grow gr) ⟨none_sub st.sub hp, .inr ⟨[], [], rfl, upd_same, .nil⟩⟩ (not_owns st hp) hp⟩
/-- d[k] = v -/
def putN (xs : List (NestedKey × Addr × V)) (k : NestedKey) (ka : Addr) (v : V) : List (NestedKey × Addr × V) := if xs.any (fun x => decide (x.1 = k)) = true then xs.map (fun x => if x.1 = k then (x.1, x.2.1, v) else x) else xs ++ [(k, ka, v)]
theorem atKey_any {k : NestedKey} : ∀ {xs : List (NestedKey × Addr × V)} {ys : List (NestedKey × Addr × Value)}, Paired PR xs ys → (atKey ys k).isSome = xs.any fun x => decide (x.1 = k)
  | _, _, .nil => rfl
  | _, _, .cons (a := x) (b := y) r t => by
    have ih := atKey_any (k := k) t
    unfold atKey at ih ⊢
    rw [List.any_cons, ← ih, List.find?_cons, r.1]
    by_cases h : y.1 = k
    · simp [h]
    · simp [h]
theorem putN_map {k : NestedKey} {v : V} {u : Value} (r : RelV v u) : ∀ {xs : List (NestedKey × Addr × V)} {ys : List (NestedKey × Addr × Value)}, Paired PR xs ys → Paired PR (xs.map fun x => if x.1 = k then (x.1, x.2.1, v) else x) (ys.map (putAt k u))
  | _, _, .nil => .nil
  | _, _, .cons (a := x) (b := y) h t => by
    refine .cons ?_ (putN_map r t)
    obtain ⟨h1, h2, h3⟩ := h
    unfold putAt
    show PR (if x.1 = k then (x.1, x.2.1, v) else x) _
    by_cases z : x.1 = k
    · rw [if_pos z, if_pos (h1 ▸ z)]
      exact ⟨h1, h2, r⟩
    · rw [if_neg z, if_neg (fun q => z (h1.trans q))]
      exact ⟨h1, h2, h3⟩
theorem putN_pair {xs : List (NestedKey × Addr × V)} {ys : List (NestedKey × Addr × Value)} {k : NestedKey} {ka : Addr} {v : V} {u : Value} (p : Paired PR xs ys) (r : RelV v u) : Paired PR (putN xs k ka v) (storedH ys k ka u) := by
  unfold putN storedH
  rw [← atKey_any p]
  split
  · exact putN_map r p
  · exact p.snoc ⟨rfl, rfl, r⟩
def rSetN (X : Cx) : V → V → V → Hp → (Hp → Prop) → Prop := fun o i v H Q => ∃ (a : Addr) (xs : List (NestedKey × Addr × V)) (k : NestedKey) (ka : Addr) (F : Hp) (es : List (D × D)) (dk : D), o = .ref a ∧ i = .ref ka ∧ H a = some (dicO (cxK X) a xs) ∧ Same F H ∧ RpN (cxK X) F xs es ∧ nkD dk = some k ∧ Rp (cxK X) F (.ref ka) dk ∧ xs.length < 16777216 ∧ Q (upd H a (dicO (cxK X) a (putN xs k ka v)))
theorem set_dicN (hu : X.A.units + 65 < cLine) : PSet X (rSetN X) := by
  intro pins s σ H o i v ov iv u Q I ro ri rv h
  obtain ⟨a, xs, k, ka, F, es, dk, rfl, rfl, hH, sf, rn, hk, rk, hl, q⟩ := h
  cases ro
  cases ri
  obtain ⟨hm, ys, p, dH⟩ := dict_at I sf hH rn
  obtain ⟨n1, n2, n3⟩ := nkD_some hk
  obtain ⟨as, rd⟩ := Dp.reads I dk (.ref ka) (.ref ka) (rp_dp (dp_mono sf _ _ rk) n3) rfl
  have hyl : ys.length ≤ sizeLine := by
    rw [← Paired.length p, line_eq]
    omega
  refine wpAny_setItem_heap (hsz := hyl) (knd := nestedKind X.prog X.w) (show X.A.units + 1 + 8 < cLine by omega) ⟨nis dk _ _ _ n1 rd, n2⟩ dH fun h' dd' hs => ?_
  have hq : ∃ o, h'.get? a = some o := let ⟨o, _, _, e, _⟩ := dd'; ⟨o, e⟩
  refine ⟨_, I.write (x := a) (e := a) (by rw [hH]; exact True.intro) (.inl rfl) (fun b ob nb e => (hs.2 b nb).trans e) hq (dicO_ok hm (putN_pair p rv) dd'), q⟩
def putD (es : List (D × D)) (dk dv : D) : List (D × D) := if es.any (fun p => decide (nkD p.1 = nkD dk)) = true then es.map (fun p => if nkD p.1 = nkD dk then (p.1, dv) else p) else es ++ [(dk, dv)]
theorem rpN_any {K : Kx} {F : Hp} {k : NestedKey} : ∀ {es : List (D × D)} {xs : List (NestedKey × Addr × V)}, RpN K F xs es → (xs.any fun x => decide (x.1 = k)) = es.any fun p => decide (nkD p.1 = some k)
  | [], _, r => by cases r; rfl
  | (dk, dv) :: es, _, r => by
    cases r with
    | cons hk h1 h2 h3 =>
      rw [List.any_cons, List.any_cons, rpN_any h3, hk]
      simp
theorem rpN_map {K : Kx} {F : Hp} {k : NestedKey} {v : V} {d : D} (rv : Rp K F v d) : ∀ {es : List (D × D)} {xs : List (NestedKey × Addr × V)}, RpN K F xs es → RpN K F (xs.map fun x => if x.1 = k then (x.1, x.2.1, v) else x) (es.map fun p => if nkD p.1 = some k then (p.1, d) else p)
  | [], _, r => by cases r; exact .nil
  | (dk, dv) :: es, _, r => by
    cases r with
    | @cons k' ka x _ _ xs' _ hk h1 h2 h3 =>
      have ih := rpN_map (k := k) rv h3
      rw [List.map_cons, List.map_cons]
      by_cases z : k' = k
      · have e1 : (if ((k', ka, x) : NestedKey × Addr × V).1 = k then (k', ka, v) else (k', ka, x)) = (k', ka, v) := if_pos z
        have e2 : (if nkD ((dk, dv) : D × D).1 = some k then (dk, d) else (dk, dv)) = (dk, d) := if_pos (by rw [hk, z])
        show RpN K F ((if ((k', ka, x) : NestedKey × Addr × V).1 = k then (k', ka, v) else (k', ka, x)) :: _) ((if nkD ((dk, dv) : D × D).1 = some k then (dk, d) else (dk, dv)) :: _)
        rw [e1, e2]
        exact .cons hk h1 rv ih
      · have e1 : (if ((k', ka, x) : NestedKey × Addr × V).1 = k then (k', ka, v) else (k', ka, x)) = (k', ka, x) := if_neg z
        have e2 : (if nkD ((dk, dv) : D × D).1 = some k then (dk, d) else (dk, dv)) = (dk, dv) := if_neg (by rw [hk]; exact fun q => z (Option.some.inj q))
        show RpN K F ((if ((k', ka, x) : NestedKey × Addr × V).1 = k then (k', ka, v) else (k', ka, x)) :: _) ((if nkD ((dk, dv) : D × D).1 = some k then (dk, d) else (dk, dv)) :: _)
        rw [e1, e2]
        exact .cons hk h1 h2 ih
theorem rpN_snoc {K : Kx} {F : Hp} {k : NestedKey} {ka : Addr} {v : V} {dk d : D} (hk : nkD dk = some k) (rk : Rp K F (.ref ka) dk) (rv : Rp K F v d) : ∀ {es : List (D × D)} {xs : List (NestedKey × Addr × V)}, RpN K F xs es → RpN K F (xs ++ [(k, ka, v)]) (es ++ [(dk, d)])
  | [], _, r => by cases r; exact .cons hk rk rv .nil
  | (_, _) :: es, _, r => by
    cases r with
    | cons hk' h1 h2 h3 => exact .cons hk' h1 h2 (rpN_snoc hk rk rv h3)
theorem rpN_put {K : Kx} {F : Hp} {k : NestedKey} {ka : Addr} {v : V} {dk d : D} {xs : List (NestedKey × Addr × V)} {es : List (D × D)} (r : RpN K F xs es) (hk : nkD dk = some k) (rk : Rp K F (.ref ka) dk) (rv : Rp K F v d) : RpN K F (putN xs k ka v) (putD es dk d) := by
  unfold putN putD
  rw [rpN_any r, hk]
  split
  · exact rpN_map rv r
  · exact rpN_snoc hk rk rv r
theorem rpN_len {K : Kx} {F : Hp} : ∀ {es : List (D × D)} {xs : List (NestedKey × Addr × V)}, RpN K F xs es → xs.length = es.length
  | [], _, r => by cases r; rfl
  | (_, _) :: es, _, r => by
    cases r with
    | cons hk' h1 h2 h3 => exact congrArg (· + 1) (rpN_len h3)
theorem own_dic {K : Kx} {F H : Hp} {a : Addr} {es : List (D × D)} (h : OwnAt K F H a (.dict es)) : F a = none ∧ ∃ xs, H a = some (dicO K a xs) ∧ RpN K F xs es := by
  obtain ⟨f, h⟩ := h
  rcases h with ⟨xs, ds', e, _⟩ | ⟨xs, es', e, hh, r⟩
  · cases e
  · cases e
    exact ⟨f, xs, hh, r⟩
def keyTup : D → Bool
  | .tuple _ => true
  | _ => false
theorem rp_ref {K : Kx} {F : Hp} {y : V} {dk : D} {k : NestedKey} (r : Rp K F y dk) (hk : keyTup dk = true) : ∃ ka, y = .ref ka := by
  cases dk <;> simp only [keyTup, Bool.false_eq_true] at hk
  cases r
  exact ⟨_, rfl⟩
def sSetK (i : Nat) (gv gk : Md D) : Sd := fun ρ => (gv ρ).bind fun p => match p.2[i]? with
  | some (some (.own _ _)) => (gk p.2).bind fun q => match q.2[i]? with
    | some (some (.own b (.dict es))) => if keyTup q.1 = true ∧ (nkD q.1).isSome = true ∧ es.length < 16777216 then some (.nx, q.2.set i (some (.own b (.dict (putD es q.1 p.1))))) else none
    | _ => none
  | _ => none
theorem ds_setK (i : Nat) {y : Str} {py tpos : Pos} {e a : Expr} {gv gi : Md D} (hu : X.A.units + 65 < cLine) (he : DE X e gv) (hi : DE X a gi) (hN : X.N[i]? = some y := by rfl) (hv : Vis X.env.scope y := by first | exact Or.inl rfl | exact Or.inr (Or.inl rfl) | exact Or.inr (Or.inr rfl)) (hdy : (y == ("__debug__" : Str)) = false := by decide) (hcd : (y == ("__classdict__" : Str)) = false := by decide)
    (ha : ∀ v, assign (.Subscript (.Name y py) a tpos) X.env v = (do let ov ← holding [v] (eval (.Name y py) X.env); let iv ← holding [v, ov] (eval a X.env); standAt tpos; holding [v, ov, iv] (setItem ov iv v); release [v, ov, iv] []) := by intro _; rfl)
    (hs : swapsWithSole [.Subscript (.Name y py) a tpos] e pos.line X.env = pure false := by rfl) (hw : swappedStores [.Subscript (.Name y py) a tpos] e X.env = pure none := by rfl) : DS X (.Assign [.Subscript (.Name y py) a tpos] e pos) (sSetK i gv gi) :=
  ps_imp (ps_asg he (pg_sub (pe_var hN hv hdy hcd) hi (set_dicN hu) ha) hs hw) fun E σ H q => by
    obtain ⟨F, ρ, f, ρ', s, eg, k⟩ := q
    obtain ⟨⟨d, ρ1⟩, e1, eg1⟩ := bind_some eg
    simp only at eg1
    split at eg1
    · rename_i b0 d0 h0
      obtain ⟨⟨dk, ρ2⟩, e2, eg2⟩ := bind_some eg1
      simp only at eg2
      split at eg2
      · rename_i b1 es h1
        split at eg2
        · rename_i hc
          cases eg2
          obtain ⟨kk, hkk⟩ := Option.isSome_iff_exists.mp hc.2.1
          refine ⟨F, ρ, d, ρ1, s, e1, fun v F1 H1 p1 s1 r1 => ?_⟩
          obtain ⟨a0, ea, o0, _⟩ := st_owned s1 h0
          refine ⟨.ref a0, ea, F1, ρ1, _, ρ2, s1, e2, fun u F2 H2 p2 s2 r2 => ?_⟩
          obtain ⟨a1, ea1, o1, _⟩ := st_owned s2 h1
          rw [ea] at ea1
          cases ea1
          obtain ⟨f1, xs, hx, rx⟩ := own_dic o1
          obtain ⟨ka, rfl⟩ := rp_ref (k := kk) r2 hc.1
          refine ⟨a0, xs, kk, ka, F2, es, dk, rfl, rfl, hx, s2.sub, rx, hkk, r2, by rw [rpN_len rx]; exact hc.2.2, ?_⟩
          have rp := rpN_put rx hkk r2 (dp_mono p2.ff _ _ r1)
          have o2 : OwnAt (cxK X) F2 (upd H2 a0 (dicO (cxK X) a0 (putN xs kk ka v))) a0 (.dict (putD es dk d)) := ⟨f1, .inr ⟨_, _, rfl, upd_same, rp⟩⟩
          have sh : Same F2 (upd H2 a0 (dicO (cxK X) a0 (putN xs kk ka v))) := fun c u hc' => by rw [upd_ne (ne_of_none hc' f1)]; exact s2.sub c u hc'
          obtain ⟨s3, p3⟩ := st_own_set s2 h1 ea (Same.refl _) sh (fun c u hc' n => ⟨by rw [upd_ne n]; exact hc', rfl⟩) o2
          exact k σ F2 _ (p1.trans (p2.trans p3)) s3
        · cases eg2
      · cases eg2
    · cases eg1
/-- d.get(k, x) -/
def atN (xs : List (NestedKey × Addr × V)) (k : NestedKey) : Option V := (xs.find? fun x => decide (x.1 = k)).map (·.2.2)
def atD (es : List (D × D)) (dk : D) : Option D := (es.find? fun p => decide (nkD p.1 = nkD dk)).map (·.2)
theorem atN_pair {k : NestedKey} : ∀ {xs : List (NestedKey × Addr × V)} {ys : List (NestedKey × Addr × Value)}, Paired PR xs ys → (atN xs k = none ∧ atKey ys k = none) ∨ ∃ x p, atN xs k = some x ∧ atKey ys k = some p ∧ RelV x p.2
  | _, _, .nil => .inl ⟨rfl, rfl⟩
  | _, _, .cons (a := x) (b := y) r t => by
    have ih := atN_pair (k := k) t
    unfold atN atKey at ih ⊢
    rw [List.find?_cons, List.find?_cons, r.1]
    by_cases h : y.1 = k
    · refine .inr ⟨x.2.2, y.2, ?_, ?_, r.2.2⟩ <;> simp [h]
    · simp only [h, decide_false]
      exact ih
theorem atN_data {K : Kx} {F : Hp} {k : NestedKey} {dk : D} (hk : nkD dk = some k) : ∀ {es : List (D × D)} {xs : List (NestedKey × Addr × V)}, RpN K F xs es → (atN xs k = none ∧ atD es dk = none) ∨ ∃ x d, atN xs k = some x ∧ atD es dk = some d ∧ Rp K F x d
  | [], _, r => by cases r; exact .inl ⟨rfl, rfl⟩
  | (dk', dv) :: es, _, r => by
    cases r with
    | @cons k' ka x _ _ xs' _ hk' h1 h2 h3 =>
      have ih := atN_data hk h3
      unfold atN atD at ih ⊢
      rw [List.find?_cons, List.find?_cons]
      by_cases z : k' = k
      · refine .inr ⟨x, dv, ?_, ?_, h2⟩ <;> simp [z, hk', hk]
      · have z2 : ¬ (some k' = some k) := fun q => z (Option.some.inj q)
        simp only [z, hk', hk, z2, decide_false]
        rw [hk] at ih
        exact ih
def rGetN (X : Cx) : V → List V → Hp → VK → Prop := fun o vs H Q => ∃ (a : Addr) (xs : List (NestedKey × Addr × V)) (k : NestedKey) (ka : Addr) (F : Hp) (es : List (D × D)) (dk : D) (x : V), o = .ref a ∧ vs = [.ref ka, x] ∧ H a = some (dicO (cxK X) a xs) ∧ Same F H ∧ RpN (cxK X) F xs es ∧ nkD dk = some k ∧ Rp (cxK X) F (.ref ka) dk ∧ Q ((atN xs k).getD x) H
theorem mt_getN (hu : X.A.units + 65 < cLine) : MtR X "dict.get" (rGetN X) := by
  intro pins s σ H o vs ov us Q I ro rvs h
  obtain ⟨a, xs, k, ka, F, es, dk, x, rfl, rfl, hH, sf, rn, hk, rk, q⟩ := h
  cases ro
  cases rvs with
  | cons r1 r2 =>
    cases r1
    cases r2 with
    | cons r3 r4 =>
      cases r4
      obtain ⟨hm, ys, p, dH⟩ := dict_at I sf hH rn
      obtain ⟨n1, n2, n3⟩ := nkD_some hk
      obtain ⟨as, rd⟩ := Dp.reads I dk (.ref ka) (.ref ka) (rp_dp (dp_mono sf _ _ rk) n3) rfl
      refine PySem.getOr_keyed (knd := nestedKind X.prog X.w) (show X.A.units + 1 + 8 < cLine by omega) ⟨nis dk _ _ _ n1 rd, n2⟩ hm ⟨ys, dH, rfl⟩ ?_
      rw [PySem.valueAt_pairsH]
      rcases atN_pair (k := k) p with ⟨e1, e2⟩ | ⟨w, z, e1, e2, rw'⟩
      · rw [e1] at q
        rw [e2]
        exact ⟨x, H, I.tok _, r3, q⟩
      · rw [e1] at q
        rw [e2]
        exact ⟨w, H, I.tok _, rw', q⟩
/-- a method of an own dict, read by its name -/
def tMN (X : Cx) (r : V → List V → Hp → VK → Prop) (i : Nat) (t : TA) : TE := fun σ H Q => ∃ (a : Addr) (F : Hp) (xs : List (NestedKey × Addr × V)) (es : List (D × D)), σ[i]? = some (some (.ref a)) ∧ Same F H ∧ H a = some (dicO (cxK X) a xs) ∧ RpN (cxK X) F xs es ∧ t σ H fun vs H2 => r (.ref a) vs H2 Q
theorem pe_mN {e : Expr} {es : List Expr} {t : TA} {name y : Str} {py apos cpos : Pos} {id : String} {r : V → List V → Hp → VK → Prop} (i : Nat) (pa : PlainAttrs "dict") (slot : Slot "dict" name id) (hty : typeOf (.builtin id) = pure (.type "method_descriptor")) (hm : MtR X id r) (hN : X.N[i]? = some y) (hv : Vis X.env.scope y) (ha : PA X (e :: es) t) (hdy : (y == ("__debug__" : Str)) = false := by decide) (hcd : (y == ("__classdict__" : Str)) = false := by decide)
    (hbase : attributeBase (.Name y py) name X.env (eval (.Name y py) X.env) = eval (.Name y py) X.env := by rfl)
    (hfew : ((backTo cpos (starEach (e :: es) X.env)).all (fun x => !x.1) && (backToKw cpos (keywordEach [] X.env)).all (fun x => x.1.isSome)
      && decide ((e :: es).length + ([] : List Keyword).length + (if ([] : List Keyword).isEmpty then 0 else 1) < 30)) = true := by rfl)
    (hline : (apos.endLine == cpos.line) = true := by rfl) (hs : starEach (e :: es) X.env = (false, eval e X.env) :: starEach es X.env := by rfl) (hplain : (backTo cpos (starEach es X.env)).any (·.1) = false := by rfl) :
    PE X (.Call (.Attribute (.Name y py) name apos) (e :: es) [] cpos) (tMN X r i t) := by
  refine ⟨fun pins s σ H Q I h => ?_⟩
  obtain ⟨a, F, xs, ds, hi, sf, hH, rn, q⟩ := h
  have hvar : tVar i σ H fun x H1 => x = .ref a ∧ H1 = H := ⟨.ref a, hi, rfl, rfl⟩
  refine wpAny_Call_method_late hbase hfew hline rfl (thn ((pe_var hN hv hdy hcd).run pins s σ H _ I hvar) fun v s1 ⟨x, H1, I1, r1, ex, eH⟩ => ?_)
  subst ex eH
  obtain ⟨hms, ys, p, dH⟩ := dict_at I1 sf hH rn
  have h1 := dH.typeIs
  cases r1
  have h2 : ∀ b, Value.ref a = .ref b → ∃ ob, s1.heap.get? b = some ob ∧ ob.dict = none := fun b eb => by
    cases eb
    obtain ⟨ob, _, _, g1, g2, _⟩ := dH
    exact ⟨ob, g1, g2.2.1⟩
  refine ⟨"dict", id, pa, slot, hty, h1, h2, ?_⟩
  have hA := ha.run cpos pins s1 σ _ _ I1 q
  rw [hs] at hA ⊢
  refine Calls.callWith_builtin (by show (false || (backTo cpos (starEach es X.env)).any (·.1)) = false; rw [hplain] <;> rfl) (Calls.evalArgs_plain ?_)
  exact thn hA fun us s2 ⟨vs, H2, I2, r2, q2⟩ => hm pins s2 σ H2 (.ref a) vs _ us Q I2 (show RelV (.ref a) (Value.ref a) from rfl) r2 q2
def gGet (i : Nat) (gk gx : Md D) : Md D := fun ρ => match ρ[i]? with
  | some (some (.own _ (.dict _))) => (gk ρ).bind fun p => (gx p.2).bind fun q => match q.2[i]? with
    | some (some (.own _ (.dict es))) => if keyTup p.1 = true ∧ (nkD p.1).isSome = true then some ((atD es p.1).getD q.1, q.2) else none
    | _ => none
  | _ => none
theorem de_get (i : Nat) {ce : Expr} {gk gx : Md D} (he : PE X ce (tMN X (rGetN X) i (tCons (tD (cxK X) gk) (tCons (tD (cxK X) gx) tNil)))) : DE X ce (gGet i gk gx) :=
  pe_imp he fun σ H Q q => by
    obtain ⟨F, ρ, d, ρ', s, eg, k⟩ := q
    unfold gGet at eg
    split at eg
    · rename_i b0 es0 h0
      obtain ⟨a, ea, o0, _⟩ := st_owned s h0
      obtain ⟨_, xs0, hx0, rx0⟩ := own_dic o0
      obtain ⟨⟨dk, ρ1⟩, e1, eg⟩ := bind_some eg
      obtain ⟨⟨dx, ρ2⟩, e2, eg⟩ := bind_some eg
      simp only at eg
      split at eg
      · rename_i b1 es h1
        split at eg
        · rename_i hc
          cases eg
          obtain ⟨kk, hkk⟩ := Option.isSome_iff_exists.mp hc.2
          refine ⟨a, F, xs0, es0, ea, s.sub, hx0, rx0, F, ρ, dk, ρ1, s, e1, fun u F1 H1 p1 s1 r1 => ⟨F1, ρ1, dx, _, s1, e2, fun w F2 H2 p2 s2 r2 => ?_⟩⟩
          obtain ⟨ka, rfl⟩ := rp_ref (k := kk) r1 hc.1
          obtain ⟨a1, ea1, o1, _⟩ := st_owned s2 h1
          rw [ea] at ea1
          cases ea1
          obtain ⟨f1, xs, hx, rx⟩ := own_dic o1
          refine ⟨a, xs, kk, ka, F2, es, dk, w, rfl, rfl, hx, s2.sub, rx, hkk, dp_mono p2.ff _ _ r1, ?_⟩
          rcases atN_data hkk rx with ⟨g1, g2⟩ | ⟨x, dd, g1, g2, g3⟩
          · rw [g1]
            rw [g2] at k
            exact k w F2 H2 (p1.trans p2) s2 r2
          · rw [g1]
            rw [g2] at k
            exact k x F2 H2 (p1.trans p2) s2 g3
        · cases eg
      · cases eg
    · cases eg
/-- d[k] -/
def rIxN (X : Cx) : R2 := fun o y H Q => ∃ (a : Addr) (xs : List (NestedKey × Addr × V)) (k : NestedKey) (ka : Addr) (F : Hp) (es : List (D × D)) (dk : D) (x : V), o = .ref a ∧ y = .ref ka ∧ H a = some (dicO (cxK X) a xs) ∧ Same F H ∧ RpN (cxK X) F xs es ∧ nkD dk = some k ∧ Rp (cxK X) F (.ref ka) dk ∧ atN xs k = some x ∧ Q x H
theorem ix_dicN (hu : X.A.units + 65 < cLine) : IxR X (rIxN X) := by
  intro value slice pins s σ H o y ov iv Q I ro ri h hsub
  obtain ⟨a, xs, k, ka, F, es, dk, x, rfl, rfl, hH, sf, rn, hk, rk, hx, q⟩ := h
  cases ro
  cases ri
  obtain ⟨hm, ys, p, dH⟩ := dict_at I sf hH rn
  obtain ⟨n1, n2, n3⟩ := nkD_some hk
  obtain ⟨as, rd⟩ := Dp.reads I dk (.ref ka) (.ref ka) (rp_dp (dp_mono sf _ _ rk) n3) rfl
  rcases atN_pair (k := k) p with ⟨e1, e2⟩ | ⟨w, z, e1, e2, rw'⟩
  · rw [hx] at e1
    cases e1
  · rw [hx] at e1
    cases e1
    have gi : wpAny (model X.prog X.w) X.A (getItem (.ref a) (.ref ka)) (EP X pins σ Q) X.xe s := by
      refine PySem.getItem_keyed (knd := nestedKind X.prog X.w) (v := z.2) (show X.A.units + 1 + 8 < cLine by omega) ⟨nis dk _ _ _ n1 rd, n2⟩ ⟨ys, dH, rfl⟩ (by rw [PySem.valueAt_pairsH, e2]; rfl) ?_
      exact ⟨x, H, I.tok _, rw', q⟩
    unfold subscriptTail
    refine wpAny_bind ?_
    rw [getitemInPython_of_ne dH.typeIs.not_modules]
    refine wpAny_bind (wpAny_specialOf dH.typeIs PySem.F.slot_dict_getitem.lookup ?_)
    have fin : wpAny (model X.prog X.w) X.A (subscripted slice false (.ref a) (.ref ka)) (fun r s₃ => wpAny (model X.prog X.w) X.A (letTemporaryGo value (.ref a) r >>= fun _ => pure r) (EP X pins σ Q) X.xe s₃) X.xe s := by
      rw [hsub]
      exact wpAny_operating (wpAny_mono gi (fun r s₃ h₃ => wpAny_bind (wpAny_letTemporaryGo (wpAny_pure h₃))) fun _ _ x => x)
    first
      | exact wpAny_pure (wpAny_bind fin)
      | exact wpAny_bind (wpAny_pure (wpAny_bind fin))
      | exact wpAny_bind fin
def gIxK (i : Nat) (gk : Md D) : Md D := fun ρ => match ρ[i]? with
  | some (some (.own _ (.dict _))) => (gk ρ).bind fun p => match p.2[i]? with
    | some (some (.own _ (.dict es))) => if keyTup p.1 = true ∧ (nkD p.1).isSome = true then (atD es p.1).bind fun r => some (r, p.2) else none
    | _ => none
  | _ => none
theorem de_ixK (i : Nat) {y : Str} {py : Pos} {a : Expr} {gk : Md D} (hu : X.A.units + 65 < cLine) (hk : DE X a gk) (hN : X.N[i]? = some y := by rfl) (hy : Vis X.env.scope y := by first | exact Or.inl rfl | exact Or.inr (Or.inl rfl) | exact Or.inr (Or.inr rfl)) (hs : PlainIx a := by intro _ _; rfl) (hdy : (y == ("__debug__" : Str)) = false := by decide) (hcd : (y == ("__classdict__" : Str)) = false := by decide) : DE X (.Subscript (.Name y py) a pos) (gIxK i gk) :=
  pe_imp (pe_ix (ix_dicN hu) (pe_var hN hy hdy hcd) hk hs) fun σ H Q q => by
    obtain ⟨F, ρ, d, ρ', s, eg, k⟩ := q
    unfold gIxK at eg
    split at eg
    · rename_i b0 es0 h0
      obtain ⟨a0, ea, o0, _⟩ := st_owned s h0
      obtain ⟨⟨dk, ρ1⟩, e1, eg⟩ := bind_some eg
      simp only at eg
      split at eg
      · rename_i b1 es h1
        split at eg
        · rename_i hc
          obtain ⟨r, e2, eg⟩ := bind_some eg
          cases eg
          obtain ⟨kk, hkk⟩ := Option.isSome_iff_exists.mp hc.2
          refine ⟨.ref a0, ea, F, ρ, dk, _, s, e1, fun u F1 H1 p1 s1 r1 => ?_⟩
          obtain ⟨ka, rfl⟩ := rp_ref (k := kk) r1 hc.1
          obtain ⟨a1, ea1, o1, _⟩ := st_owned s1 h1
          rw [ea] at ea1
          cases ea1
          obtain ⟨f1, xs, hx, rx⟩ := own_dic o1
          rcases atN_data hkk rx with ⟨g1, g2⟩ | ⟨x, dd, g1, g2, g3⟩
          · rw [e2] at g2
            cases g2
          · rw [e2] at g2
            cases g2
            exact ⟨a0, xs, kk, ka, F1, es, dk, x, rfl, rfl, hx, s1.sub, rx, hkk, r1, g1, k x F1 H1 p1 s1 g3⟩
        · cases eg
      · cases eg
    · cases eg
end
end Dn
set_option maxHeartbeats 2000000
/-! sorted(d) of an own dict, list.extend -/
namespace Dn
open PySem PySem.Spec PyProof.Rows L2 DnSo
section
variable {X : Cx} {pos p : Pos} {x y : Str} {py : Pos}
theorem triN {K : Kx} {F : Hp} : ∀ {es : List (D × D)} {xs : List (NestedKey × Addr × V)} {ys : List (NestedKey × Addr × Value)}, RpN K F xs es → Paired PR xs ys → Tri K F (xs.map fun x => V.ref x.2.1) (ys.map fun y => Value.ref y.2.1) (es.map (·.1))
  | [], _, _, r, p => by
    cases r
    cases p
    exact .nil
  | (dk, dv) :: es, _, _, r, p => by
    cases r with
    | cons hk h1 h2 h3 =>
      cases p with
      | cons a b =>
        refine .cons ?_ h1 (triN h3 b)
        show RelV (V.ref _) (Value.ref _)
        rw [a.2.1]
        rfl
/-- collect of what is walked: the heap only grows -/
theorem coll_src {P : Program} {w : World} {B : Around} {G : Value → Shared → Prop} {s : Shared} {T : String} {r d : Addr} {n : Nat} {Z : Nat → Value → Prop} {OK : Heap → Prop} {R : List Value → Shared → Prop}
    (S : PySem.W.KdlSrc P w T r d n Z OK) (hB : B.handled = none) (ok : OK s.heap) (hn : n ≤ sizeLine)
    (k : ∀ (g : Heap) (tk : Nat) (ac : Array Value), s.heap.objs.size ≤ g.objs.size → (∀ c u, s.heap.get? c = some u → g.get? c = some u) → ItemsOf Z ac n → R ac.toList { s with heap := g, toks := tk }) :
    wpAny (model P w) B (collect (.ref r)) R G s := by
  obtain ⟨l1, l2⟩ := S.there _ ok
  unfold collect
  refine wpAny_bind (wpAny_runValue
    (codeAny_builtin entry_proto_collect' ?_))
  rw [Around.under_plainId PySem.F.plain_proto_collect _]
  show wpAny _ B.in1
    (newList [] >>= fun z => again (.builtin "list.__iadd__" ⟨[z, .ref r], []⟩)) _ _ s
  refine wpAny_bind
    (wpAny_newObj_type ?_)
  refine wpAny_pure
    ⟨plainId_quiet PySem.F.plain_list_iadd _, codeAny_builtin entry_list_iadd' ?_⟩
  rw [Around.under_plainId PySem.F.plain_list_iadd _]
  have hnew : (s.heap.push { cls := .type "list", data := .seq ([] : List Value).toArray }).get? s.heap.objs.size = some { cls := .type "list", data := .seq #[] } := Heap.get?_push_size _ rfl
  show wpAny _ B.in1
    (Builtin.List.listExtendWith (.ref s.heap.objs.size) (.ref r) (.ref s.heap.objs.size)) _ _ _
  have main := PySem.W.kdl_extend (A := B) (s := { s with heap := s.heap.push { cls := .type "list", data := .seq ([] : List Value).toArray } })
    (R := fun (q : Result) (z : Shared) => ∃ (g : Heap) (tk : Nat) (ac : Array Value) (c : Nat), q = .ok (.ret (.ref s.heap.objs.size)) ∧ z = { s with heap := g, toks := tk } ∧
      (∀ b o, s.heap.get? b = some o → g.get? b = some o) ∧ g.get? s.heap.objs.size = some { cls := .type "list", dict := none, data := .seq ac c, slots := #[] } ∧ ItemsOf Z ac n)
    S hB (S.keep _ _ ok fun b _ o e => Heap.get?_push_of_some _ e) s.heap.objs.size (Nat.ne_of_gt l1) (Nat.ne_of_gt l2) (.ref s.heap.objs.size) 0 hnew
    (fun g tk ac c q1 q2 q3 => ⟨g, tk, ac, c, rfl, rfl, fun b o e => q1 b o (Nat.ne_of_lt (Heap.lt_size e)) (Heap.get?_push_of_some _ e), q2, q3⟩) hn
  refine wpAny_mono main (fun fin z x => ?_) fun e z x => ?_
  · cases fin with
    | done f =>
      obtain ⟨g, tk, ac, c, e, rfl, q1, q2, q3⟩ := x
      cases e
      show wpAny _ B
        (load s.heap.objs.size >>= _) _ _ _
      exact wpAny_bind (wpAny_load q2 (wpAny_pure (k g tk ac (Nat.le_of_lt (Heap.lt_size q2)) q1 q3)))
    | again c₁ =>
      refine ⟨x.1, codeAny_mono x.2 fun q z2 y => ?_⟩
      obtain ⟨g, tk, ac, c, rfl, rfl, q1, q2, q3⟩ := y
      show wpAny _ B
        (load s.heap.objs.size >>= _) _ _ _
      exact wpAny_bind (wpAny_load q2 (wpAny_pure (k g tk ac (Nat.le_of_lt (Heap.lt_size q2)) q1 q3)))
  · obtain ⟨_, _, _, _, e', _⟩ := x
    cases e'
/-- a dict whose keys are tuples; the empty one may be of the other kind -/
def DicAt (K : Kx) (F H : Hp) (a : Addr) (es : List (D × D)) : Prop := (∃ xs, H a = some (dicO K a xs) ∧ RpN K F xs es) ∨ (es = [] ∧ H a = some (.dK []))
theorem dic_at {pins : List (Addr × Obj)} {s : Shared} {σ : L2.St} {F H : Hp} {a : Addr} {es : List (D × D)} (I : Inv X pins σ H s) (sf : Same F H) (h : DicAt (cxK X) F H a es) :
    (a == sysModules) = false ∧ ∃ xs ys, RpN (cxK X) F xs es ∧ Paired PR xs ys ∧ s.heap.DictOfH (nestedKind X.prog X.w) a ys := by
  rcases h with ⟨xs, hH, rn⟩ | ⟨rfl, hH⟩
  · obtain ⟨hm, ys, p, dH⟩ := dict_at I sf hH rn
    exact ⟨hm, xs, ys, rn, p, dH⟩
  · obtain ⟨_, hm, vs, kv, dO⟩ := I.hok a _ hH
    cases kv
    obtain ⟨es', ep, ⟨o, ho, hc, hd⟩, hsz, _⟩ := dO.raw
    have he : es' = #[] := Array.eq_empty_of_size_eq_zero hsz
    subst he
    exact ⟨hm, [], [], .nil, .nil, o, #[], ep, ho, hc, hd, rfl, by simp, List.nodup_nil⟩
/-- .. one key alone may be of any shape -/
def sortOkN (ds : List D) : Bool := sortOk ds || (decide (ds.length < 2) && ds.all fun d => ord0 d && d.canLay0 && decide (d.depth ≤ 8))
theorem sortOkN_facts {ds : List D} (h : sortOkN ds = true) : ds.length ≤ 16777216 ∧ (∀ d ∈ ds, (ord0 d = true ∧ d.canLay0 = true) ∧ d.depth ≤ 8) ∧ (sortOk ds = true ∨ ds.length < 2) := by
  unfold sortOkN at h
  rw [Bool.or_eq_true] at h
  rcases h with h | h
  · refine ⟨?_, ?_, .inl h⟩
    · unfold sortOk at h
      simp only [Bool.and_eq_true, List.all_eq_true, decide_eq_true_eq] at h
      exact h.1.1.1
    · unfold sortOk at h
      simp only [Bool.and_eq_true, List.all_eq_true, decide_eq_true_eq] at h
      exact h.1.1.2
  · simp only [Bool.and_eq_true, List.all_eq_true, decide_eq_true_eq] at h
    exact ⟨by omega, h.2, .inr h.1⟩
def rSrtN (X : Cx) : List V → Hp → VK → Prop := fun vs H Q => ∃ (a : Addr) (F : Hp) (es : List (D × D)), vs = [.ref a] ∧ Same F H ∧ DicAt (cxK X) F H a es ∧ sortOkN (es.map (·.1)) = true ∧
  ∀ b F' H', Grow F H F' H' → OwnAt (cxK X) F' H' b (.list ((es.map (·.1)).mergeSort leD3)) → H b = none → Q (.ref b) H'
theorem call_sortN (hc : X.calm = true) (hu : X.A.units + 65 < cLine) : CallR X (.builtin "sorted") (rSrtN X) := by
  intro pins s σ H vs us Q I rx h
  obtain ⟨a, F, es, rfl, sf, hD, ok, k⟩ := h
  obtain ⟨hm, xs, ys, rn, p, dH⟩ := dic_at I sf hD
  have T := triN rn p
  rw [Vals.ref1 rx]
  obtain ⟨hlen0, hdd, hok⟩ := sortOkN_facts ok
  have rd : ∀ x u d, d ∈ es.map (·.1) → RelV x u → Rp (cxK X) F x d → ∃ as, Reads s.heap u d as := fun x u d hd hr hp => Dp.reads I d x u (rp_dp (dp_mono sf _ _ hp) (hdd d hd).1.2) hr
  obtain ⟨es', ep, raw, hsz, hks⟩ := dH.raw
  have hyl : ys.length = (es.map (·.1)).length := by rw [List.length_map, ← Paired.length p, rpN_len rn]
  have hn : es'.size ≤ sizeLine := by rw [hsz, hyl, line_eq]; exact hlen0
  refine Calls.call_function_entry kind_sorted plain_sorted entry_sorted (args_sorted1 _) ?_
  unfold Builtin.«sorted»
  refine wpAny_bind (m := checkCount "sorted" 1 1 _) (wpAny_pure ?_)
  refine wpAny_bind (coll_src (B := X.A.in1) (PySem.KdlSrc.rawDict hm) (I.ok.hd hc) raw hn fun h' tk acc hsl hk hacc => ?_)
  have hvs : acc.toList = ys.map fun y => Value.ref y.2.1 := by
    apply List.ext_getElem?
    intro i
    rw [Array.getElem?_toList, List.getElem?_map]
    by_cases hi : i < es'.size
    · have hia : i < acc.size := by rw [hacc.1]; exact hi
      rw [Array.getElem?_eq_getElem hia]
      obtain ⟨hi', e1⟩ := hacc.2 i _ (Array.getElem?_eq_getElem hia)
      obtain ⟨y, e2, e3, _⟩ := hks i hi
      rw [e1, e3, e2]
      rfl
    · have hia : acc.size ≤ i := by rw [hacc.1]; omega
      rw [Array.getElem?_eq_none hia, List.getElem?_eq_none (by omega)]
      rfl
  rw [hvs]
  generalize hU : (ys.map fun y => Value.ref y.2.1) = us' at T hvs ⊢
  have hul : us'.length ≤ sizeLine := by rw [← hU, List.length_map, hyl, line_eq]; exact hlen0
  refine wpAny_bind (wpAny_newList ?_ hul)
  have hoL : (h'.push (seqObj "list" us'.toArray 0)).get? h'.objs.size = some (seqObj "list" us'.toArray 0) := Heap.get?_push_size _ rfl
  have keep : ∀ b o, s.heap.get? b = some o → b ≠ h'.objs.size ∧ (h'.push (seqObj "list" us'.toArray 0)).get? b = some o := fun b o q => ⟨Nat.ne_of_lt (Heap.lt_size (hk b o q)), Heap.get?_push_of_some _ (hk b o q)⟩
  show wpAny _ _ _ _ _ { s with heap := h'.push (seqObj "list" us'.toArray 0), toks := tk }
  refine wpAny_bind (wpAny_holding (wpAny_call_entry slot_list_sort ⟨_, hoL, rfl⟩ entry_list_sort (SrtO.list_sort_ord (swoK s.heap) hoL hul (fun h2 => ?_) fun out h1 h2 => ⟨_, rfl, ?_⟩) (args_list_sort _)))
  · have ok2 : sortOk (es.map (·.1)) = true := hok.resolve_right fun z => by
      have : us'.length = (es.map (·.1)).length := by rw [← hU, List.length_map, hyl]
      omega
    refine sortableK (ds := es.map (·.1)) (fun v hm => ?_) ok2 h2 keep (by show X.A.units + 1 + 1 + 20 < cLine; omega)
    obtain ⟨x, d, h3, h4, h5⟩ := T.mem v hm
    obtain ⟨as, h6⟩ := rd x v d h3 h4 h5
    exact ⟨d, as, h3, h6⟩
  · obtain ⟨xs', ds', T', pm⟩ := T.perm h2.perm.symm
    have ek : out.map (kOf s.heap) = ds' := T'.map fun x u d hd hr hp => by
      obtain ⟨as, h6⟩ := rd x u d (pm.mem_iff.mp hd) hr hp
      exact kOf_eq h6
    have es2 : ds' = (es.map (·.1)).mergeSort leD3 := sort_one (fun d hd => (hdd d hd).1.1) pm (by
      rw [← ek]
      exact List.pairwise_map.mpr h1)
    obtain ⟨ep', he'⟩ := sortedHeap_at (out := out.toArray) hoL
    have hlen : xs'.length ≤ sizeLine := by
      rw [line_eq, da_len T'.all, pm.length_eq]
      exact hlen0
    have hp : H h'.objs.size = none := I.hok.fresh hsl
    rw [← es2] at k
    refine wpAny_pure ⟨_, rfl, .ref h'.objs.size, upd H h'.objs.size (.lst xs'), I.laid (a := h'.objs.size) (t' := tk) (fun b o q => ?_) hsl ⟨hlen, out, ep', T'.vals, he'⟩, rfl, k _ _ _ (Grow.own sf hp) (own_new sf hp T'.all) hp⟩
    rw [sortedHeap_old (keep b o q).1 (Heap.lt_size (keep b o q).2)]
    exact (keep b o q).2
def gSortN (i : Nat) : Md D := fun ρ => match ρ[i]? with
  | some (some (.own _ (.dict es))) => if sortOk (es.map (·.1)) = true then some (.list ((es.map (·.1)).mergeSort leD3), ρ) else none
  | _ => none
theorem df_sortN (i : Nat) (hc : X.calm = true) (hu : X.A.units + 65 < cLine) (hg : Gl X "sorted") (hm : X.mg "sorted" = none) (hb : bootBuiltins "sorted" = some (.builtin "sorted")) (hN : X.N[i]? = some y := by rfl) (hy : Vis X.env.scope y := by first | exact Or.inl rfl | exact Or.inr (Or.inl rfl) | exact Or.inr (Or.inr rfl)) (hdy : (y == ("__debug__" : Str)) = false := by decide) (hcd : (y == ("__classdict__" : Str)) = false := by decide)
    (he : starEach (.Name y py :: []) X.env = (false, eval (.Name y py) X.env) :: starEach [] X.env := by rfl) : DF X (.Call (.Name "sorted" p) (.Name y py :: []) [] pos) (gSortN i) :=
  pe_imp (pe_callB (call_sortN hc hu) hg hm hb (pa_cons (pe_var hN hy hdy hcd) pa_nil he) (by decide) (by decide) he (by rfl)) fun σ H Q q => by
    obtain ⟨F, ρ, d, ρ', s, eg, k⟩ := q
    unfold gSortN at eg
    split at eg
    · rename_i b0 es h0
      split at eg
      · rename_i ok
        cases eg
        obtain ⟨a, ea, o0, _⟩ := st_owned s h0
        obtain ⟨_, xs, hx, rx⟩ := own_dic o0
        exact ⟨.ref a, ea, a, F, es, rfl, s.sub, .inl ⟨xs, hx, rx⟩, by unfold sortOkN; rw [ok]; rfl, fun b F' H' gr o hn => k b F' H' (gr.stp σ _) (s.grow gr) o (not_owns s hn) hn⟩
      · cases eg
    · cases eg
/-- list.extend by any list -/
def rExtS (K : PySem.W.Frag) : V → List V → Hp → VK → Prop := fun x vs H Q => ∃ l b xs zs, x = .ref l ∧ vs = [.ref b] ∧ H l = some (.lst xs) ∧ SqL K H b zs ∧ xs.length + zs.length ≤ sizeLine ∧ Q .non (upd H l (.lst (xs ++ zs)))
theorem mt_extS : MtM X "list.extend" (rExtS X.K) := by
  intro pins s σ H x vs v us Q I rx rv h
  obtain ⟨l, b, xs, zs, rfl, rfl, hH, hB, hz, q⟩ := h
  cases rx
  obtain ⟨u, rfl, ru⟩ := rv.one
  cases ru
  obtain ⟨z, its, n, r, hl, e⟩ := I.lstM hH
  obtain ⟨its2, r2, ⟨o2, n2, e2, c2, _, d2⟩, hl2⟩ := I.list hB
  have hi2 := r2.length
  have hsz : its.toArray.size + its2.toArray.size ≤ sizeLine := by rw [List.size_toArray, List.size_toArray]; omega
  have hlong : ¬ (!its.toArray.isEmpty && Builtin.List.listTooLong (its.toArray.size + its2.toArray.size)) = true := by
    rw [notLongL hsz, Bool.and_false]
    exact Bool.false_ne_true
  refine wpAny_call_entry F.slot_list_extend ⟨_, e, rfl⟩ F.entry_list_extend ?_ (F.args_list_extend_2 _ _)
  show wpAny _ _ (Builtin.List.listExtendWith (.ref l) (.ref b) .none) _ _ s
  unfold Builtin.List.listExtendWith
  refine wpAny_bind (wpAny_typeOf (T := "list") ⟨o2, e2, c2⟩ ?_)
  have ht : (Value.type "list" == Value.type "list") = true := by rfl
  rw [if_pos (by rw [ht]; simp)]
  refine wpAny_bind (listItems_at e2 d2 ?_)
  refine wpAny_bind (listItems_at (xs := its.toArray) (n := n) e rfl ?_)
  rw [if_neg hlong]
  refine wpAny_bind (listUpdate_at (xs := its.toArray) (n := n) e rfl ?_ (by rw [List.size_toArray]; omega) (by rw [Array.size_append]; omega))
  refine wpAny_pure ⟨.none, rfl, .non, _, I.lset (its' := its ++ its2) hH e (by simp) (r.append r2) ?_, rfl, q⟩
  rw [List.length_append]
  omega
def lsD : D → Option (List D)
  | .list ds => some ds
  | _ => none
def sExt (i : Nat) (g : Md D) : Sd := fun ρ => match ρ[i]? with
  | some (some (.own _ (.list _))) => (g ρ).bind fun p => match p.2[i]? with
    | some (some (.own b (.list ds))) => (lsD p.1).bind fun es => if ds.length + es.length ≤ 16777216 then some (.nx, p.2.set i (some (.own b (.list (ds ++ es))))) else none
    | _ => none
  | _ => none
theorem ds_ext (i : Nat) {ce : Expr} {g : Md D} (he : PE X ce (tBM (cxK X) "list" (rExtS X.K) (tVar i) (tCons (tD (cxK X) g) tNil))) (hs : swapsWith ce none pos.line X.env = pure false := by rfl) : DS X (.Expr ce pos) (sExt i g) :=
  ps_imp (ps_expr he hs) fun E σ H q => by
    obtain ⟨F, ρ, f, ρ', s, eg, k⟩ := q
    unfold sExt at eg
    split at eg
    · rename_i b0 d0 h0
      obtain ⟨a, ea, o0, _⟩ := st_owned s h0
      obtain ⟨_, xs0, hx0, _⟩ := own_lst o0
      obtain ⟨⟨d, ρ1⟩, e1, eg1⟩ := bind_some eg
      simp only at eg1
      split at eg1
      · rename_i b1 ds h1
        obtain ⟨es, e2, eg2⟩ := bind_some eg1
        split at eg2
        · rename_i hl
          cases eg2
          cases d <;> cases e2
          refine ⟨.ref a, ea, .inl ⟨rfl, xs0, SqL.of hx0⟩, F, ρ, _, ρ1, s, e1, fun v F1 H1 p1 s1 r1 => ?_⟩
          obtain ⟨a1, ea1, o1, _⟩ := st_owned s1 h1
          rw [ea] at ea1
          cases ea1
          obtain ⟨f1, xs, hx, rx⟩ := own_lst o1
          cases r1 with
          | @lst b zs _ hb rz =>
            refine ⟨a, b, xs, zs, rfl, rfl, hx, s1.sub.seq hb, by rw [line_eq, da_len rx, da_len rz]; exact hl, ?_⟩
            obtain ⟨o2, sh, kp⟩ := own_write s1.sub f1 hx (da_app rx rz)
            obtain ⟨s2, p2⟩ := st_own_set s1 h1 ea (Same.refl _) sh kp o2
            exact k σ F1 _ (p1.trans p2) s2
        · cases eg2
      · cases eg1
    · cases eg
end
end Dn
set_option maxHeartbeats 2000000
/-! groups.setdefault(key, []).append(item), turn by turn -/
namespace Dn
open PySem PySem.Spec PyProof.Rows L2 DnSo
def addL (es : List D) (x : D) : D := .list (es ++ [x])
/-- an item behind the list at its key -/
def appG : List (D × D) → D → D → List (D × D)
  | [], k, x => [(k, .list [x])]
  | (k', d) :: es, k, x => if nkD k' = nkD k then (k', match d with | .list ds => .list (ds ++ [x]) | d => d) :: es else (k', d) :: appG es k x
def lenG : List (D × D) → D → Nat
  | [], _ => 0
  | (k', d) :: es, k => if nkD k' = nkD k then (match d with | .list ds => ds.length | _ => 0) else lenG es k
inductive RpG (K : Kx) (F H : Hp) : List (NestedKey × Addr × V) → List (D × D) → List Addr → Prop
  | nil : RpG K F H [] [] []
  | cons {k : NestedKey} {ka la : Addr} {dk : D} {vs : List V} {ds : List D} {xs : List (NestedKey × Addr × V)} {es : List (D × D)} {las : List Addr} (hk : nkD dk = some k) (h1 : Rp K F (.ref ka) dk) (hf : F la = none) (hh : H la = some (.lst vs)) (h2 : RpAll K F vs ds) (hn : la ∉ las) (t : RpG K F H xs es las) : RpG K F H ((k, ka, .ref la) :: xs) ((dk, .list ds) :: es) (la :: las)
theorem RpG.mono {K : Kx} {F F' H H' : Hp} (f : Same F F') : ∀ {xs es las}, RpG K F H xs es las → (∀ b ∈ las, F' b = F b ∧ H' b = H b) → RpG K F' H' xs es las
  | _, _, _, .nil, _ => .nil
  | _, _, _, .cons (la := la) hk h1 hf hh h2 hn t, h => by
    obtain ⟨e1, e2⟩ := h la List.mem_cons_self
    exact .cons hk (dp_mono f _ _ h1) (e1.trans hf) (e2.trans hh) (dpAll_mono f _ _ h2) hn (t.mono f fun b hb => h b (List.mem_cons_of_mem _ hb))
theorem RpG.len {K : Kx} {F H : Hp} : ∀ {xs es las}, RpG K F H xs es las → xs.length = es.length
  | _, _, _, .nil => rfl
  | _, _, _, .cons _ _ _ _ _ _ t => congrArg (· + 1) t.len
theorem RpG.free {K : Kx} {F H : Hp} : ∀ {xs es las}, RpG K F H xs es las → ∀ b ∈ las, F b = none ∧ ∃ vs, H b = some (.lst vs)
  | _, _, _, .nil, b, hb => by cases hb
  | _, _, _, .cons _ _ hf hh _ _ t, b, hb => by
    rcases List.mem_cons.mp hb with rfl | hb
    · exact ⟨hf, _, hh⟩
    · exact t.free b hb
open Classical in
/-- what stands for good, and the lists -/
noncomputable def ext (F H : Hp) (las : List Addr) : Hp := fun b => if b ∈ las then H b else F b
theorem ext_in {F H : Hp} {las : List Addr} {b : Addr} (h : b ∈ las) : ext F H las b = H b := if_pos h
theorem ext_out {F H : Hp} {las : List Addr} {b : Addr} (h : b ∉ las) : ext F H las b = F b := if_neg h
theorem ext_same {F H : Hp} {las : List Addr} (h : ∀ b ∈ las, F b = none) : Same F (ext F H las) := fun b o e => by
  by_cases z : b ∈ las
  · rw [h b z] at e; cases e
  · rw [ext_out z]; exact e
theorem ext_sub {F H : Hp} {las : List Addr} (s : Same F H) : Same (ext F H las) H := fun b o e => by
  by_cases z : b ∈ las
  · rw [ext_in z] at e; exact e
  · rw [ext_out z] at e; exact s b o e
theorem RpG.rpN {K : Kx} {F H : Hp} {las0 : List Addr} (h0 : ∀ b ∈ las0, F b = none) : ∀ {xs es las}, RpG K F H xs es las → (∀ b ∈ las, b ∈ las0) → RpN K (ext F H las0) xs es
  | _, _, _, .nil, _ => .nil
  | _, _, _, .cons (la := la) hk h1 hf hh h2 hn t, h => by
    have f := ext_same (H := H) h0
    exact .cons hk (dp_mono f _ _ h1) (.lst (SqL.of (by rw [ext_in (h la List.mem_cons_self)]; exact hh)) (dpAll_mono f _ _ h2)) (t.rpN h0 fun b hb => h b (List.mem_cons_of_mem _ hb))
theorem rpG_app {K : Kx} {F H : Hp} {k : NestedKey} {ka : Addr} {dk d : D} {v : V} (hk : nkD dk = some k) (rk : Rp K F (.ref ka) dk) (rv : Rp K F v d) : ∀ {xs es las}, RpG K F H xs es las →
    (atN xs k = none ∧ ∀ la, F la = none → la ∉ las → RpG K F (upd H la (.lst [v])) (xs ++ [(k, ka, .ref la)]) (appG es dk d) (las ++ [la])) ∨
    (∃ la vs, la ∈ las ∧ atN xs k = some (.ref la) ∧ H la = some (.lst vs) ∧ vs.length = lenG es dk ∧ RpG K F (upd H la (.lst (vs ++ [v]))) xs (appG es dk d) las)
  | _, _, _, .nil => .inl ⟨rfl, fun la hf _ => .cons hk rk hf upd_same (.cons rv .nil) (by simp) .nil⟩
  | _, _, _, .cons (k := k') (ka := ka') (la := la') (dk := dk') (vs := vs') (ds := ds') (xs := xs) (es := es) (las := las) hk' h1 hf hh h2 hn t => by
    by_cases z : k' = k
    · refine .inr ⟨la', vs', List.mem_cons_self, ?_, hh, ?_, ?_⟩
      · unfold atN
        rw [List.find?_cons]
        simp [z]
      · unfold lenG
        rw [if_pos (by rw [hk', hk, z]), da_len h2]
      · unfold appG
        rw [if_pos (by rw [hk', hk, z])]
        exact .cons hk' h1 hf upd_same (da_app h2 (.cons rv .nil)) hn (t.mono (Same.refl _) fun b hb => ⟨rfl, upd_ne fun e => hn (e ▸ hb)⟩)
    · have z2 : ¬ nkD dk' = nkD dk := fun q => z (by rw [hk', hk] at q; exact Option.some.inj q)
      have ea : atN ((k', ka', V.ref la') :: xs) k = atN xs k := by
        unfold atN
        rw [List.find?_cons]
        simp [z]
      rcases rpG_app hk rk rv t with ⟨e1, e2⟩ | ⟨la, vs, e1, e2, e3, e4, e5⟩
      · refine .inl ⟨ea.trans e1, fun la f0 n0 => ?_⟩
        unfold appG
        rw [if_neg z2]
        have n1 : la' ≠ la := fun q => n0 (q ▸ List.mem_cons_self)
        refine .cons hk' h1 hf (by rw [upd_ne n1]; exact hh) h2 (fun q => ?_) (e2 la f0 fun q => n0 (List.mem_cons_of_mem _ q))
        rcases List.mem_append.mp q with q | q
        · exact hn q
        · exact n1 (List.mem_singleton.mp q)
      · refine .inr ⟨la, vs, List.mem_cons_of_mem _ e1, ea.trans e2, e3, ?_, ?_⟩
        · unfold lenG
          rw [if_neg z2]
          exact e4
        · unfold appG
          rw [if_neg z2]
          have n1 : la' ≠ la := fun q => hn (q ▸ e1)
          exact .cons hk' h1 hf (by rw [upd_ne n1]; exact hh) h2 hn e5
/-- the groups, beside the state -/
structure Gh (K : Kx) (F H : Hp) (σ : L2.St) (ρ : Env) (H0 : Hp) (i : Nat) (a : Addr) (xs : List (NestedKey × Addr × V)) (es : List (D × D)) (las : List Addr) : Prop where
  slot : σ[i]? = some (some (.ref a))
  fa : F a = none
  ha : H a = some (dicO K a xs)
  rg : RpG K F H xs es las
  na : a ∉ las
  own : ∀ b ∈ las, ¬ Owns σ ρ b ∧ H0 b = none
  no : ¬ Owns σ ρ a
theorem Gh.step {K : Kx} {F H F' H' : Hp} {σ σ' : L2.St} {ρ ρ' : Env} {H0 : Hp} {i : Nat} {a : Addr} {xs es las} (g : Gh K F H σ ρ H0 i a xs es las) (p : Stp F σ ρ H F' σ' ρ' H') (e : σ'[i]? = σ[i]?) : Gh K F' H' σ' ρ' H0 i a xs es las := by
  have kp : ∀ b ∈ las, F' b = F b ∧ H' b = H b := fun b hb => by
    obtain ⟨vs, hv⟩ := (g.rg.free b hb).2
    obtain ⟨k1, k2⟩ := p.keep b _ hv (g.own b hb).1
    exact ⟨k2, k1.trans hv.symm⟩
  have fr : ∀ b, (∃ o, H b = some o) → ¬ Owns σ ρ b → ¬ Owns σ' ρ' b := fun b ho hn z => by
    rcases p.fresh b z with q | q
    · exact hn q
    · obtain ⟨o, ho⟩ := ho
      rw [q] at ho
      cases ho
  obtain ⟨k1, k2⟩ := p.keep a _ g.ha g.no
  exact ⟨e.trans g.slot, k2.trans g.fa, k1, g.rg.mono p.ff kp, g.na, fun b hb => ⟨fr b (let ⟨vs, hv⟩ := (g.rg.free b hb).2; ⟨_, hv⟩) (g.own b hb).1, (g.own b hb).2⟩, fr a ⟨_, g.ha⟩ g.no⟩
theorem st_ext {K : Kx} {F H : Hp} {σ : L2.St} {ρ : Env} {las : List Addr} (s : St K F H σ ρ) (h : ∀ b ∈ las, F b = none ∧ ¬ Owns σ ρ b) : St K (ext F H las) H σ ρ where
  sub := ext_sub s.sub
  len := s.len
  cell := fun i c e => by
    have q := s.cell i c e
    have f := ext_same (H := H) (las := las) fun b hb => (h b hb).1
    cases c with
    | val d =>
      obtain ⟨v, e1, r⟩ := q
      exact ⟨v, e1, dp_mono f _ _ r⟩
    | own f0 d =>
      obtain ⟨a, e1, r1, r2⟩ := q
      exact ⟨a, e1, (ext_out fun z => (h a z).2 ⟨i, f0, d, e, e1⟩).trans r1, r2.mono f fun o e => e⟩
  dist := s.dist
/-- what is changed was one's own at the start, or is new since -/
theorem stp_poke {F0 F : Hp} {σ0 σ : L2.St} {ρ0 ρ : Env} {H0 H : Hp} (p : Stp F0 σ0 ρ0 H0 F σ ρ H) {b : Addr} {o : HO} (hb : H0 b = none ∨ Owns σ0 ρ0 b) : Stp F0 σ0 ρ0 H0 F σ ρ (upd H b o) := by
  refine ⟨p.ff, fun c u h n => ?_, p.fresh, p.fix, fun c u h => ?_⟩
  · have z : c ≠ b := fun z => by
      subst z
      rcases hb with q | q
      · rw [q] at h; cases h
      · exact n q
    rw [upd_ne z]
    exact p.keep c u h n
  · obtain ⟨o', ho⟩ := p.dom c u h
    by_cases z : c = b
    · subst z
      exact ⟨o, upd_same⟩
    · exact ⟨o', by rw [upd_ne z]; exact ho⟩
theorem stp_ice {F0 F F' : Hp} {σ0 σ : L2.St} {ρ0 ρ : Env} {H0 H : Hp} (p : Stp F0 σ0 ρ0 H0 F σ ρ H) (f : Same F F') (h : ∀ b, F' b ≠ F b → H0 b = none ∨ Owns σ0 ρ0 b) : Stp F0 σ0 ρ0 H0 F' σ ρ H := by
  refine ⟨p.ff.trans f, fun c u hc n => ?_, p.fresh, p.fix, p.dom⟩
  obtain ⟨k1, k2⟩ := p.keep c u hc n
  refine ⟨k1, ?_⟩
  by_cases z : F' c = F c
  · exact z.trans k2
  · rcases h c z with q | q
    · rw [q] at hc; cases hc
    · exact absurd q n
section
variable {X : Cx} {pos : Pos}
/-- d.setdefault(k, x) of the program -/
def rSetdN (X : Cx) : V → List V → Hp → VK → Prop := fun o vs H Q => ∃ (a : Addr) (xs : List (NestedKey × Addr × V)) (k : NestedKey) (ka : Addr) (G : Hp) (es : List (D × D)) (dk : D) (x : V), o = .ref a ∧ vs = [.ref ka, x] ∧ H a = some (dicO (cxK X) a xs) ∧ Same G H ∧ RpN (cxK X) G xs es ∧ nkD dk = some k ∧ Rp (cxK X) G (.ref ka) dk ∧ xs.length ≤ 16777216 ∧
  (∀ y, atN xs k = some y → Q y H) ∧ (atN xs k = none → Q x (upd H a (dicO (cxK X) a (xs ++ [(k, ka, x)]))))
theorem mt_setdN (hu : X.A.units + 65 < cLine) : MtR X "dict.setdefault" (rSetdN X) := by
  intro pins s σ H o vs ov us Q I ro rvs h
  obtain ⟨a, xs, k, ka, F, es, dk, x, rfl, rfl, hH, sf, rn, hk, rk, hl, q1, q2⟩ := h
  cases ro
  cases rvs with
  | cons r1 r2 =>
    cases r1
    cases r2 with
    | cons r3 r4 =>
      cases r4
      obtain ⟨hm, ys, p, dH⟩ := dict_at I sf hH rn
      obtain ⟨n1, n2, n3⟩ := nkD_some hk
      obtain ⟨as, rd⟩ := Dp.reads I dk (.ref ka) (.ref ka) (rp_dp (dp_mono sf _ _ rk) n3) rfl
      refine PySem.call_setdefault_heap (knd := nestedKind X.prog X.w) (show X.A.units + 1 + 8 < cLine by omega) ⟨nis dk _ _ _ n1 rd, n2⟩ hm dH (fun z hz => ?_) (fun hn h' dd' hs => ?_) (by rw [← Paired.length p, line_eq]; exact hl)
      · rcases atN_pair (k := k) p with ⟨e1, e2⟩ | ⟨w, z', e1, e2, rw'⟩
        · rw [e2] at hz
          cases hz
        · rw [e2] at hz
          cases hz
          exact ⟨w, H, I.tok _, rw', q1 w e1⟩
      · have e1 : atN xs k = none := by
          rcases atN_pair (k := k) p with ⟨e1, e2⟩ | ⟨w, z', e1, e2, rw'⟩
          · exact e1
          · rw [e2] at hn
            cases hn
        have hq : ∃ o, h'.get? a = some o := let ⟨o, _, _, e, _⟩ := dd'; ⟨o, e⟩
        rw [storedH_new hn] at dd'
        have I2 := I.write (x := a) (e := a) (o := dicO (cxK X) a (xs ++ [(k, ka, x)])) (h' := h') (t' := s.toks + (nestedKind X.prog X.w).draws k) (by rw [hH]; exact True.intro) (.inl rfl) (fun b ob nb e => (hs.2 b nb).trans e) hq (dicO_ok hm (p.snoc (show PR (k, ka, x) (k, ka, _) from ⟨rfl, rfl, r3⟩)) dd')
        exact ⟨x, _, I2, r3, q2 e1⟩
/-- the loop on data -/
def grpD (gt : D → Env → Option Env) (p : Nat) (g0 gk gx : Md D) : List D → List (D × D) → Env → Option (List (D × D) × Env)
  | [], es, ρ => some (es, ρ)
  | d :: ds, es, ρ => (gt d ρ).bind fun ρ1 => (g0 ρ1).bind fun q0 => (setC p (.val q0.1) q0.2).bind fun ρ2 => (gk ρ2).bind fun q1 => (gx q1.2).bind fun q2 =>
      if keyTup q1.1 = true ∧ (nkD q1.1).isSome = true ∧ es.length < 16777216 ∧ lenG es q1.1 < 16777216 then grpD gt p g0 gk gx ds (appG es q1.1 q2.1) q2.2 else none
def emptyOwn : Option (Option Cell) → Bool
  | some (some (.own false (.dict []))) => true
  | _ => false
def sGrp (i : Nat) (gi : Md (List D)) (gt : D → Env → Option Env) (p : Nat) (g0 gk gx : Md D) : Sd := fun ρ => (gi ρ).bind fun q => if emptyOwn q.2[i]? = true then
    (grpD gt p g0 gk gx q.1 [] (q.2.set i none)).bind fun r => (setC i (.val (.dict r.1)) r.2).bind fun ρ' => some (.nx, ρ') else none
theorem emptyOwn_some {o : Option (Option Cell)} (h : emptyOwn o = true) : o = some (some (.own false (.dict []))) := by
  unfold emptyOwn at h
  split at h
  · rfl
  · cases h
/-- the turn's reading -/
def tTurn (X : Cx) (i p : Nat) (g0 gk gx : Md D) : TS := tSeq (tAsg (tD (cxK X) g0) (gName p)) (tSeq (tDrop (tBM (cxK X) "list" rAppend (tMN X (rSetdN X) i (tCons (tD (cxK X) gk) (tCons (tF (cxK X) (gApp mkLst gNil)) tNil))) (tCons (tD (cxK X) gx) tNil))) tNext)
theorem turn_ok {i p : Nat} {g0 gk gx : Md D} (hip : p ≠ i) {E : Ends} {F H : Hp} {σ : L2.St} {ρ ρ2 : Env} {q0 q1 q2 : D × Env} {a : Addr} {xs : List (NestedKey × Addr × V)} {es : List (D × D)} {las : List Addr} {Fs : Hp} {σs : L2.St} {ρs : Env} {Hs : Hp}
    (s : St (cxK X) F H σ ρ) (g : Gh (cxK X) F H σ ρ Hs i a xs es las) (pp : Stp Fs σs ρs Hs F σ ρ H) (oa : Owns σs ρs a)
    (e0 : g0 ρ = some q0) (ec : setC p (.val q0.1) q0.2 = some ρ2) (e1 : gk ρ2 = some q1) (e2 : gx q1.2 = some q2) (hc : keyTup q1.1 = true ∧ (nkD q1.1).isSome = true ∧ es.length < 16777216 ∧ lenG es q1.1 < 16777216)
    (k : ∀ F' σ' H' xs' las', Same F F' → Stp Fs σs ρs Hs F' σ' q2.2 H' → St (cxK X) F' H' σ' q2.2 → Gh (cxK X) F' H' σ' q2.2 Hs i a xs' (appG es q1.1 q2.1) las' → E.nx σ' H') : tTurn X i p g0 gk gx E σ H := by
  obtain ⟨kk, hkk⟩ := Option.isSome_iff_exists.mp hc.2.1
  refine ⟨F, ρ, q0.1, q0.2, s, e0, fun v F1 H1 p1 s1 r1 => ?_⟩
  have p1' := stp_set (v := v) p1 ec fun _ _ _ z => nomatch z
  have s1' := st_set (v := v) s1 ec ⟨v, rfl, r1⟩ fun _ _ _ z => nomatch z
  have si : (σ.set p (some v))[i]? = σ[i]? := get_set_ne (Ne.symm hip)
  have g1 := g.step p1' si
  have pp1 := pp.trans p1'
  show tBM (cxK X) "list" rAppend (tMN X (rSetdN X) i (tCons (tD (cxK X) gk) (tCons (tF (cxK X) (gApp mkLst gNil)) tNil))) (tCons (tD (cxK X) gx) tNil) (σ.set p (some v)) H1 fun _ H' => E.nx (σ.set p (some v)) H'
  generalize σ.set p (some v) = σ1 at p1' s1' si g1 pp1 ⊢
  have fr1 : ∀ b ∈ las, F1 b = none := fun b hb => (g1.rg.free b hb).1
  refine ⟨a, ext F1 H1 las, xs, es, g1.slot, ext_sub s1'.sub, g1.ha, g1.rg.rpN fr1 fun _ h => h, F1, ρ2, q1.1, q1.2, s1', e1, fun u F2 H2 p2 s2 r2 => ?_⟩
  obtain ⟨ka, rfl⟩ := rp_ref (k := kk) r2 hc.1
  have g2 := g1.step p2 rfl
  have pp2 := pp1.trans p2
  refine ⟨F2, q1.2, .list [], q1.2, s2, rfl, fun ln F3 H3 p3 s3 o3 no3 hn3 => ?_⟩
  have g3 := g2.step p3 rfl
  have pp3 := pp2.trans p3
  obtain ⟨fl, vl, hvl, rvl⟩ := own_lst o3
  cases rvl
  have hs3 : Hs ln = none := pp2.none hn3
  have lnn : ln ∉ las := fun z => by
    obtain ⟨vs, hv⟩ := (g2.rg.free ln z).2
    rw [hn3] at hv
    cases hv
  have lna : ln ≠ a := fun z => by
    have := g2.ha
    rw [← z, hn3] at this
    cases this
  have r3 := dp_mono p3.ff _ _ r2
  have fr3 : ∀ b ∈ las, F3 b = none := fun b hb => (g3.rg.free b hb).1
  have sx := ext_same (H := H3) fr3
  refine ⟨a, xs, kk, ka, ext F3 H3 las, es, q1.1, .ref ln, rfl, rfl, g3.ha, ext_sub s3.sub, g3.rg.rpN fr3 fun _ h => h, hkk, dp_mono sx _ _ r3, by rw [g3.rg.len]; omega, fun y hy => ?_, fun hy => ?_⟩
  · -- the key is there
    have ex : ∃ la vs, la ∈ las ∧ y = .ref la ∧ H3 la = some (.lst vs) := by
      rcases rpG_app hkk r3 (Rp.non (K := cxK X) (H := F3)) g3.rg with ⟨z1, _⟩ | ⟨la, vs, z1, z2, z3, _⟩
      · rw [z1] at hy; cases hy
      · rw [z2] at hy
        cases hy
        exact ⟨la, vs, z1, rfl, z3⟩
    obtain ⟨la0, vs0, _, rfl, hla0⟩ := ex
    refine ⟨.inl ⟨rfl, vs0, SqL.of hla0⟩, F3, q1.2, q2.1, q2.2, s3, e2, fun w F4 H4 p4 s4 r4 => ?_⟩
    have g4 := g3.step p4 rfl
    have pp4 := pp3.trans p4
    have r4k := dp_mono p4.ff _ _ r3
    rcases rpG_app hkk r4k r4 g4.rg with ⟨z1, _⟩ | ⟨la, vs, z1, z2, z3, z4, z5⟩
    · rw [z1] at hy; cases hy
    · rw [z2] at hy
      cases hy
      refine ⟨la0, vs, w, rfl, rfl, z3, by rw [line_eq, z4]; exact hc.2.2.2, ?_⟩
      obtain ⟨f4, _⟩ := g4.rg.free la0 z1
      have hno := (g4.own la0 z1).1
      have hal : a ≠ la0 := fun z => g4.na (z ▸ z1)
      refine k F4 σ1 _ xs las (p1'.ff.trans (p2.ff.trans (p3.ff.trans p4.ff))) (stp_poke pp4 (.inl (g4.own la0 z1).2)) (st_side s4 f4 hno) ⟨g4.slot, g4.fa, by rw [upd_ne hal]; exact g4.ha, z5, g4.na, g4.own, g4.no⟩
  · -- a new key
    have g3l : St (cxK X) F3 (upd H3 a (dicO (cxK X) a (xs ++ [(kk, ka, .ref ln)]))) σ1 q1.2 := st_side s3 g3.fa g3.no
    have pp3l := stp_poke (o := dicO (cxK X) a (xs ++ [(kk, ka, .ref ln)])) pp3 (.inr oa)
    have hl4 : upd H3 a (dicO (cxK X) a (xs ++ [(kk, ka, .ref ln)])) ln = some (.lst []) := by
      rw [upd_ne lna]
      exact hvl
    refine ⟨.inl ⟨rfl, [], SqL.of hl4⟩, F3, q1.2, q2.1, q2.2, g3l, e2, fun w F4 H4 p4 s4 r4 => ?_⟩
    have pp4 := pp3l.trans p4
    obtain ⟨c1, c2⟩ := p4.keep a _ upd_same g3.no
    obtain ⟨c3, c4⟩ := p4.keep ln _ hl4 no3
    have fr : ∀ b, (∃ o, upd H3 a (dicO (cxK X) a (xs ++ [(kk, ka, .ref ln)])) b = some o) → ¬ Owns σ1 q1.2 b → ¬ Owns σ1 q2.2 b := fun b ho hn z => by
      rcases p4.fresh b z with q | q
      · exact hn q
      · obtain ⟨o, ho⟩ := ho
        rw [q] at ho
        cases ho
    have noa := fr a ⟨_, upd_same⟩ g3.no
    have nol := fr ln ⟨_, hl4⟩ no3
    have rg4 : RpG (cxK X) F4 H4 xs es las := g3.rg.mono p4.ff fun b hb => by
      obtain ⟨vs, hv⟩ := (g3.rg.free b hb).2
      have nb : b ≠ a := fun z => g3.na (z ▸ hb)
      have hv2 : upd H3 a (dicO (cxK X) a (xs ++ [(kk, ka, .ref ln)])) b = some (.lst vs) := by rw [upd_ne nb]; exact hv
      obtain ⟨d1, d2⟩ := p4.keep b _ hv2 (g3.own b hb).1
      exact ⟨d2, d1.trans hv.symm⟩
    have r4k := dp_mono p4.ff _ _ r3
    rcases rpG_app hkk r4k r4 rg4 with ⟨z1, z2⟩ | ⟨la, vs, z1, z2, _⟩
    · refine ⟨ln, [], w, rfl, rfl, c3, by rw [line_eq]; exact Nat.zero_lt_succ _, ?_⟩
      show E.nx σ1 (upd H4 ln (.lst [w]))
      have f4 : F4 ln = none := c4.trans fl
      refine k F4 σ1 _ (xs ++ [(kk, ka, .ref ln)]) (las ++ [ln]) (p1'.ff.trans (p2.ff.trans (p3.ff.trans p4.ff))) (stp_poke pp4 (.inl hs3)) (st_side s4 f4 nol) ⟨g3.slot, c2.trans g3.fa, by rw [upd_ne (Ne.symm lna)]; exact c1, z2 ln f4 lnn, fun z => ?_, fun b hb => ?_, noa⟩
      · rcases List.mem_append.mp z with z | z
        · exact g3.na z
        · exact lna (List.mem_singleton.mp z).symm
      · rcases List.mem_append.mp hb with h | h
        · refine ⟨fr b ?_ (g3.own b h).1, (g3.own b h).2⟩
          obtain ⟨vs, hv⟩ := (g3.rg.free b h).2
          have nb : b ≠ a := fun z => g3.na (z ▸ h)
          exact ⟨_, by rw [upd_ne nb]; exact hv⟩
        · rw [List.mem_singleton.mp h]
          exact ⟨nol, hs3⟩
    · rw [z2] at hy; cases hy
theorem ds_grp (i p : Nat) {tg iter : Expr} {gi : Md (List D)} {gt : D → Env → Option Env} {is : List Nat} {g0 gk gx : Md D} {body : List Stmt} (hc : X.calm = true) (hp : PassesOwn (model X.prog X.w) X.A X.env X.xe) (hi : DI X tg iter gi) (hg : DG X tg is gt) (hb : PSs X body (tTurn X i p g0 gk gx)) (hip : p ≠ i) (his : i ∉ is) (hs : ∀ x, foldedSetIterable iter X.env x = pure x := by intro _; rfl) : DS X (.For tg iter body [] pos) (sGrp i gi gt p g0 gk gx) :=
  ps_imp (ps_for hp hc hi hg hb hs) fun E σ H q => by
    obtain ⟨F, ρ, f, ρ', s, eg, k⟩ := q
    obtain ⟨⟨ds, ρ1⟩, e1, eg1⟩ := bind_some eg
    simp only at eg1
    split at eg1
    · rename_i hemp
      have hown := emptyOwn_some hemp
      obtain ⟨⟨esf, ρf⟩, e2, eg2⟩ := bind_some eg1
      obtain ⟨ρe, e3, eg3⟩ := bind_some eg2
      cases eg3
      refine ⟨F, ρ, ds, ρ1, s, e1, fun J F1 H1 p1 s1 ok => ?_⟩
      obtain ⟨a, ea, o0, _⟩ := st_owned s1 hown
      obtain ⟨fa, xs0, hx0, rx0⟩ := own_dic o0
      cases rx0
      have oa : Owns σ ρ1 a := ⟨i, false, _, hown, ea⟩
      -- the slot forgotten
      have hil : i < ρ1.length := (List.getElem?_eq_some_iff.mp hown).1
      have sub : ∀ (j : Nat) (c : Cell), (ρ1.set i none)[j]? = some (some c) → j ≠ i ∧ ρ1[j]? = some (some c) := fun j c hj => by
        by_cases z : j = i
        · subst z
          rw [List.getElem?_set_self hil] at hj
          cases hj
        · rw [get_set_ne z] at hj
          exact ⟨z, hj⟩
      have s1f : St (cxK X) F1 H1 σ (ρ1.set i none) := ⟨s1.sub, by rw [List.length_set]; exact s1.len, fun j c hj => s1.cell j c (sub j c hj).2, fun j l f g d e b h1 h2 h3 h4 => s1.dist j l f g d e b (sub j _ h1).2 (sub l _ h2).2 h3 h4⟩
      have noa : ¬ Owns σ (ρ1.set i none) a := fun ⟨j, f, d, h1, h2⟩ => (sub j _ h1).1 (s1.dist j i f false d _ a (sub j _ h1).2 hown h2 ea)
      have p0 : Stp F1 σ ρ1 H1 F1 σ (ρ1.set i none) H1 := ⟨Same.refl _, fun _ _ h _ => ⟨h, rfl⟩, fun b ⟨j, f, d, h1, h2⟩ => .inl ⟨j, f, d, (sub j _ h1).2, h2⟩, fun j d h => by
        have z : j ≠ i := fun z => by
          subst z
          rw [hown] at h
          cases h
        exact ⟨rfl, d, by rw [get_set_ne z]; exact h⟩, fun _ o h => ⟨o, h⟩⟩
      have g0' : Gh (cxK X) F1 H1 σ (ρ1.set i none) H1 i a [] [] [] := ⟨ea, fa, hx0, .nil, by simp, by simp, noa⟩
      refine ⟨fun j m σi Hi => ∃ Fi ρi es xs las, m = ds.length - j ∧ j ≤ ds.length ∧ Stp F1 σ ρ1 H1 Fi σi ρi Hi ∧ St (cxK X) Fi Hi σi ρi ∧ Same F1 Fi ∧ Gh (cxK X) Fi Hi σi ρi H1 i a xs es las ∧ grpD gt p g0 gk gx (ds.drop j) es ρi = some (esf, ρf), ⟨ds.length, F1, _, [], [], [], by simp, Nat.zero_le _, p0, s1f, Same.refl _, g0', by simpa using e2⟩, ?_⟩
      rintro j m σi Hi ⟨Fi, ρi, es, xs, las, rfl, hj, pi, si, sf, gi, ei⟩
      by_cases hlt : j < ds.length
      · have hd : ds[j]? = some ds[j] := List.getElem?_eq_getElem hlt
        obtain ⟨ok1, _⟩ := ok Fi Hi sf si.sub j
        obtain ⟨go, yl⟩ := ok1 _ hd
        rw [drop_cons hd] at ei
        obtain ⟨ρ2, c1, ei⟩ := bind_some ei
        obtain ⟨q0, c2, ei⟩ := bind_some ei
        obtain ⟨ρ3, c3, ei⟩ := bind_some ei
        obtain ⟨q1, c4, ei⟩ := bind_some ei
        obtain ⟨q2, c5, ei⟩ := bind_some ei
        split at ei
        · rename_i hcd
          refine .inr ⟨go, fun σ' H' => ∃ F' ρ'' es' xs' las', Stp F1 σ ρ1 H1 F' σ' ρ'' H' ∧ St (cxK X) F' H' σ' ρ'' ∧ Same F1 F' ∧ Gh (cxK X) F' H' σ' ρ'' H1 i a xs' es' las' ∧ grpD gt p g0 gk gx (ds.drop (j + 1)) es' ρ'' = some (esf, ρf), fun σ' H' ⟨F', ρ'', es', xs', las', h1, h2, h3, h4, h5⟩ => ⟨ds.length - (j + 1), by omega, F', ρ'', es', xs', las', rfl, hlt, h1, h2, h3, h4, h5⟩, fun v H' hy => ?_⟩
          obtain ⟨F', gr, rv⟩ := yl v H' hy
          have pg := gr.stp σi ρi
          have gg := gi.step pg rfl
          refine ⟨F', ρi, _, ρ2, si.grow gr, rv, c1, fun σ2 F2 H2 p2 s2 hk2 => ?_⟩
          have gg2 := gg.step p2 (hk2.2 i his)
          have pp2 := (pi.trans pg).trans p2
          exact turn_ok hip s2 gg2 pp2 oa c2 c3 c4 c5 hcd fun F3 σ3 H3 xs3 las3 f3 pp3 s3 g3 => ⟨F3, q2.2, appG es q1.1 q2.1, xs3, las3, pp3, s3, (sf.trans (gr.ff.trans p2.ff)).trans f3, g3, ei⟩
        · cases ei
      · have hj2 : j = ds.length := by omega
        subst hj2
        rw [List.drop_length] at ei
        cases ei
        obtain ⟨_, ok2⟩ := ok Fi Hi sf si.sub ds.length
        refine .inl ⟨ok2 (Nat.le_refl _), ?_⟩
        -- all of it stands for good now
        have fl : ∀ b ∈ las, Fi b = none ∧ ¬ Owns σi ρf b := fun b hb => ⟨(gi.rg.free b hb).1, (gi.own b hb).1⟩
        have se := st_ext si fl
        have fe := ext_same (H := Hi) (las := las) fun b hb => (fl b hb).1
        have fea : ext Fi Hi las a = none := (ext_out gi.na).trans gi.fa
        have sz := st_frz se fea gi.ha gi.no
        have fz : Same (ext Fi Hi las) (upd (ext Fi Hi las) a (dicO (cxK X) a xs)) := same_new fea
        have rz : RpN (cxK X) (upd (ext Fi Hi las) a (dicO (cxK X) a xs)) xs esf := dpN_mono fz _ _ (gi.rg.rpN (fun b hb => (fl b hb).1) fun _ h => h)
        have pz := stp_ice pi (fe.trans fz) fun b hb => by
          by_cases za : b = a
          · subst za
            exact .inr oa
          · rw [upd_ne za] at hb
            by_cases zl : b ∈ las
            · exact .inl (gi.own b zl).2
            · exact absurd (ext_out zl) hb
        have sσ : σi.set i (some (.ref a)) = σi := by
          have hl : i < σi.length := (List.getElem?_eq_some_iff.mp gi.slot).1
          apply List.ext_getElem?
          intro l
          by_cases z : l = i
          · subst z
            rw [List.getElem?_set_self hl, gi.slot]
          · rw [List.getElem?_set_ne (Ne.symm z)]
        have st2 := st_set (v := .ref a) sz e3 ⟨.ref a, rfl, .dicN upd_same rz⟩ fun _ _ _ z => nomatch z
        have pt2 := stp_set (v := .ref a) pz e3 fun _ _ _ z => nomatch z
        rw [sσ] at st2 pt2
        exact k σi _ Hi (p1.trans pt2) st2
    · cases eg1
end
end Dn
set_option maxHeartbeats 2000000
/-! dicts with tuple keys that stand for good: sorted, d[k], d.get; list.index -/
namespace Dn
open PySem PySem.Spec PyProof.Rows L2 DnSo
def keysTup (es : List (D × D)) : Bool := es.all fun p => keyTup p.1
theorem rp_dicAt {K : Kx} {F H : Hp} {v : V} {es : List (D × D)} (s : Same F H) (r : Rp K F v (.dict es)) (hk : keysTup es = true) : ∃ a, v = .ref a ∧ DicAt K F H a es := by
  cases r with
  | @dic a ks _ hs hr =>
    cases hr with
    | nil => exact ⟨a, rfl, .inr ⟨rfl, s _ _ hs⟩⟩
    | @cons k _ _ _ _ _ _ =>
      exfalso
      unfold keysTup at hk
      rw [List.all_cons, Bool.and_eq_true] at hk
      have h1 := hk.1
      cases k <;> cases h1
  | @dicN a xs _ hs hr => exact ⟨a, rfl, .inl ⟨xs, s _ _ hs, hr⟩⟩
def sortDF : List D → Option D
  | [.dict es] => if keysTup es = true ∧ sortOkN (es.map (·.1)) = true then some (.list ((es.map (·.1)).mergeSort leD3)) else none
  | _ => none
section
variable {X : Cx} {pos : Pos}
theorem call_sortDic (hc : X.calm = true) (hu : X.A.units + 65 < cLine) : CallR X (.builtin "sorted") (rFn (cxK X) sortDF) := by
  intro pins s σ H xs us Q I rx h
  obtain ⟨F, ds, r, sf, hd, ef, k⟩ := h
  unfold sortDF at ef
  split at ef
  · rename_i es
    split at ef
    · rename_i ok
      cases ef
      obtain ⟨v, rfl, hv⟩ := da1 hd
      obtain ⟨a, rfl, hD⟩ := rp_dicAt sf hv ok.1
      exact call_sortN hc hu pins s σ H _ us Q I rx ⟨a, F, es, rfl, sf, hD, ok.2, k⟩
    · cases ef
  · cases ef
/-- d[k] -/
def ixG : D → D → Option D
  | .dict es, k => if keysTup es = true ∧ keyTup k = true ∧ (nkD k).isSome = true then atD es k else none
  | _, _ => none
theorem ix_G (hu : X.A.units + 65 < cLine) : IxR X (rP2 (cxK X) ixG) := by
  intro value slice pins s σ H o y ov iv Q I ro ri h hsub
  obtain ⟨F, d, e, r, sf, hd, he, ef, k⟩ := h
  unfold ixG at ef
  split at ef
  · rename_i es dk
    split at ef
    · rename_i ok
      obtain ⟨a, rfl, hD⟩ := rp_dicAt sf hd ok.1
      obtain ⟨kk, hkk⟩ := Option.isSome_iff_exists.mp ok.2.2
      obtain ⟨ka, rfl⟩ := rp_ref (k := kk) he ok.2.1
      cases ro
      cases ri
      obtain ⟨hm, xs, ys, rn, p, dH⟩ := dic_at I sf hD
      obtain ⟨n1, n2, n3⟩ := nkD_some hkk
      obtain ⟨as, rd⟩ := Dp.reads I _ (.ref ka) (.ref ka) (rp_dp (dp_mono sf _ _ he) n3) rfl
      rcases atN_data hkk rn with ⟨g1, g2⟩ | ⟨x, dd, g1, g2, g3⟩
      · rw [g2] at ef; cases ef
      · rw [g2] at ef
        cases ef
        rcases atN_pair (k := kk) p with ⟨e1, e2⟩ | ⟨w, z, e1, e2, rw'⟩
        · rw [g1] at e1; cases e1
        · rw [g1] at e1
          cases e1
          have gi : wpAny (model X.prog X.w) X.A (getItem (.ref a) (.ref ka)) (EP X pins σ Q) X.xe s := by
            refine PySem.getItem_keyed (knd := nestedKind X.prog X.w) (v := z.2) (show X.A.units + 1 + 8 < cLine by omega) ⟨nis _ _ _ _ n1 rd, n2⟩ ⟨ys, dH, rfl⟩ (by rw [PySem.valueAt_pairsH, e2]; rfl) ?_
            exact ⟨x, H, I.tok _, rw', k x F H (Grow.refl sf) g3⟩
          unfold subscriptTail
          refine wpAny_bind ?_
          rw [getitemInPython_of_ne dH.typeIs.not_modules]
          refine wpAny_bind (wpAny_specialOf dH.typeIs PySem.F.slot_dict_getitem.lookup ?_)
          have fin : wpAny (model X.prog X.w) X.A (subscripted slice false (.ref a) (.ref ka)) (fun r s₃ => wpAny (model X.prog X.w) X.A (letTemporaryGo value (.ref a) r >>= fun _ => pure r) (EP X pins σ Q) X.xe s₃) X.xe s := by
            rw [hsub]
            exact wpAny_operating (wpAny_mono gi (fun r s₃ h₃ => wpAny_bind (wpAny_letTemporaryGo (wpAny_pure h₃))) fun _ _ x => x)
          first
            | exact wpAny_pure (wpAny_bind fin)
            | exact wpAny_bind (wpAny_pure (wpAny_bind fin))
            | exact wpAny_bind fin
    · cases ef
  · cases ef
/-- d.get(k, x), d an expression -/
def rGetD (X : Cx) : V → List V → Hp → VK → Prop := fun o vs H Q => ∃ (a ka : Addr) (F : Hp) (es : List (D × D)) (dk dx : D) (k : NestedKey) (x : V), o = .ref a ∧ vs = [.ref ka, x] ∧ Same F H ∧ DicAt (cxK X) F H a es ∧ nkD dk = some k ∧ Rp (cxK X) F (.ref ka) dk ∧ Rp (cxK X) F x dx ∧ ∀ y, Rp (cxK X) F y ((atD es dk).getD dx) → Q y H
theorem mt_getD (hu : X.A.units + 65 < cLine) : MtR X "dict.get" (rGetD X) := by
  intro pins s σ H o vs ov us Q I ro rvs h
  obtain ⟨a, ka, F, es, dk, dx, k, x, rfl, rfl, sf, hD, hk, rk, rx, q⟩ := h
  cases ro
  cases rvs with
  | cons r1 r2 =>
    cases r1
    cases r2 with
    | cons r3 r4 =>
      cases r4
      obtain ⟨hm, xs, ys, rn, p, dH⟩ := dic_at I sf hD
      obtain ⟨n1, n2, n3⟩ := nkD_some hk
      obtain ⟨as, rd⟩ := Dp.reads I dk (.ref ka) (.ref ka) (rp_dp (dp_mono sf _ _ rk) n3) rfl
      refine PySem.getOr_keyed (knd := nestedKind X.prog X.w) (show X.A.units + 1 + 8 < cLine by omega) ⟨nis dk _ _ _ n1 rd, n2⟩ hm ⟨ys, dH, rfl⟩ ?_
      rw [PySem.valueAt_pairsH]
      rcases atN_data hk rn with ⟨g1, g2⟩ | ⟨y, dd, g1, g2, g3⟩
      · rcases atN_pair (k := k) p with ⟨e1, e2⟩ | ⟨w, z, e1, e2, rw'⟩
        · rw [e2]
          rw [g2] at q
          exact ⟨x, H, I.tok _, r3, q x rx⟩
        · rw [g1] at e1; cases e1
      · rcases atN_pair (k := k) p with ⟨e1, e2⟩ | ⟨w, z, e1, e2, rw'⟩
        · rw [g1] at e1; cases e1
        · rw [g1] at e1
          cases e1
          rw [e2]
          rw [g2] at q
          exact ⟨y, H, I.tok _, rw', q y g3⟩
def tMD (X : Cx) (r : V → List V → Hp → VK → Prop) (to : TE) (t : TA) : TE := fun σ H Q => to σ H fun x H1 => (∃ (a : Addr) (F : Hp) (es : List (D × D)), x = .ref a ∧ Same F H1 ∧ DicAt (cxK X) F H1 a es) ∧ t σ H1 fun vs H2 => r x vs H2 Q
theorem pe_mD {o e : Expr} {es : List Expr} {to : TE} {t : TA} {name : Str} {apos cpos : Pos} {id : String} {r : V → List V → Hp → VK → Prop} (pa : PlainAttrs "dict") (slot : Slot "dict" name id) (hty : typeOf (.builtin id) = pure (.type "method_descriptor")) (hm : MtR X id r) (ho : PE X o to) (ha : PA X (e :: es) t)
    (hbase : attributeBase o name X.env (eval o X.env) = eval o X.env := by rfl)
    (hfew : ((backTo cpos (starEach (e :: es) X.env)).all (fun x => !x.1) && (backToKw cpos (keywordEach [] X.env)).all (fun x => x.1.isSome)
      && decide ((e :: es).length + ([] : List Keyword).length + (if ([] : List Keyword).isEmpty then 0 else 1) < 30)) = true := by rfl)
    (hline : (apos.endLine == cpos.line) = true := by rfl) (hs : starEach (e :: es) X.env = (false, eval e X.env) :: starEach es X.env := by rfl) (hplain : (backTo cpos (starEach es X.env)).any (·.1) = false := by rfl) :
    PE X (.Call (.Attribute o name apos) (e :: es) [] cpos) (tMD X r to t) := by
  refine ⟨fun pins s σ H Q I h => ?_⟩
  refine wpAny_Call_method_late hbase hfew hline rfl (thn (ho.run pins s σ H _ I h) fun v s1 ⟨x, H1, I1, r1, ty, q1⟩ => ?_)
  obtain ⟨a, F, ds, ex, sf, hD⟩ := ty
  subst ex
  obtain ⟨hms, xs, ys, rn, p, dH⟩ := dic_at I1 sf hD
  have h1 := dH.typeIs
  have r1' := r1
  cases r1'
  have h2 : ∀ b, Value.ref a = .ref b → ∃ ob, s1.heap.get? b = some ob ∧ ob.dict = none := fun b eb => by
    cases eb
    obtain ⟨ob, _, _, g1, g2, _⟩ := dH
    exact ⟨ob, g1, g2.2.1⟩
  refine ⟨"dict", id, pa, slot, hty, h1, h2, ?_⟩
  have hA := ha.run cpos pins s1 σ _ _ I1 q1
  rw [hs] at hA ⊢
  refine Calls.callWith_builtin (by show (false || (backTo cpos (starEach es X.env)).any (·.1)) = false; rw [hplain] <;> rfl) (Calls.evalArgs_plain ?_)
  exact thn hA fun us s2 ⟨vs, H2, I2, r2, q2⟩ => hm pins s2 σ H2 (.ref a) vs _ us Q I2 (show RelV (.ref a) (Value.ref a) from rfl) r2 q2
def getG : D → D → D → Option D
  | .dict es, k, x => if keysTup es = true ∧ keyTup k = true ∧ (nkD k).isSome = true then some ((atD es k).getD x) else none
  | _, _, _ => none
def gGetD (go gk gx : Md D) : Md D := fun ρ => (go ρ).bind fun p => (gk p.2).bind fun q => (gx q.2).bind fun r => (getG p.1 q.1 r.1).bind fun z => some (z, r.2)
theorem de_getD {ce : Expr} {go gk gx : Md D} (he : PE X ce (tMD X (rGetD X) (tD (cxK X) go) (tCons (tD (cxK X) gk) (tCons (tD (cxK X) gx) tNil)))) : DE X ce (gGetD go gk gx) :=
  pe_imp he fun σ H Q q => by
    obtain ⟨F, ρ, d, ρ', s, eg, k⟩ := q
    obtain ⟨⟨o, ρ1⟩, e1, eg⟩ := bind_some eg
    obtain ⟨⟨dk, ρ2⟩, e2, eg⟩ := bind_some eg
    obtain ⟨⟨dx, ρ3⟩, e3, eg⟩ := bind_some eg
    obtain ⟨z, e4, eg⟩ := bind_some eg
    cases eg
    obtain ⟨es, rfl⟩ : ∃ es, o = .dict es := by cases o <;> first | exact ⟨_, rfl⟩ | cases e4
    have e5 : (if keysTup es = true ∧ keyTup dk = true ∧ (nkD dk).isSome = true then some ((atD es dk).getD dx) else none) = some d := e4
    split at e5
    · rename_i ok
      cases e5
      obtain ⟨kk, hkk⟩ := Option.isSome_iff_exists.mp ok.2.2
      refine ⟨F, ρ, _, ρ1, s, e1, fun v F1 H1 p1 s1 r1 => ?_⟩
      obtain ⟨a, rfl, hD⟩ := rp_dicAt s1.sub r1 ok.1
      refine ⟨⟨a, F1, es, rfl, s1.sub, hD⟩, F1, ρ1, dk, ρ2, s1, e2, fun u F2 H2 p2 s2 r2 => ⟨F2, ρ2, dx, ρ3, s2, e3, fun w F3 H3 p3 s3 r3 => ?_⟩⟩
      obtain ⟨ka, rfl⟩ := rp_ref (k := kk) r2 ok.2.1
      obtain ⟨b, eb, hD3⟩ := rp_dicAt s3.sub (dp_mono (p2.ff.trans p3.ff) _ _ r1) ok.1
      cases eb
      exact ⟨a, ka, F3, es, dk, dx, kk, w, rfl, rfl, s3.sub, hD3, hkk, dp_mono p3.ff _ _ r2, r3, fun y hy => k y F3 H3 (p1.trans (p2.trans p3)) s3 hy⟩
    · cases e5
/-- l.index(x) -/
def ixOf (d : D) : List D → Nat → Option Nat
  | [], _ => none
  | x :: xs, i => if PyData.eqv x d = true then some i else ixOf d xs (i + 1)
theorem ixOf_some {d : D} : ∀ {xs : List D} {i j : Nat}, ixOf d xs i = some j → i ≤ j ∧ (∃ z, xs[j - i]? = some z ∧ PyData.eqv z d = true) ∧ ∀ m z', m < j - i → xs[m]? = some z' → PyData.eqv z' d = false
  | [], _, _, h => by cases h
  | x :: xs, i, j, h => by
    unfold ixOf at h
    split at h
    · rename_i hx
      cases h
      rw [Nat.sub_self]
      exact ⟨Nat.le_refl _, ⟨x, rfl, hx⟩, fun m _ hm => by omega⟩
    · rename_i hx
      obtain ⟨h1, ⟨z, h2, h3⟩, h4⟩ := ixOf_some h
      have e : j - i = (j - (i + 1)) + 1 := by omega
      rw [e]
      refine ⟨by omega, ⟨z, h2, h3⟩, fun m z' hm hz => ?_⟩
      cases m with
      | zero =>
        cases hz
        simpa using hx
      | succ m => exact h4 m z' (by omega) hz
def indF : D → D → Option D
  | .list xs, d => if SeqAt.shaped (.list xs) = true ∧ SeqAt.shaped d = true then (ixOf d xs 0).bind fun j => some (.int (j : Nat)) else none
  | _, _ => none
def gInd (go gx : Md D) : Md D := fun ρ => (go ρ).bind fun p => (gx p.2).bind fun q => (indF p.1 q.1).bind fun z => some (z, q.2)
theorem de_ind {ce : Expr} {go gx : Md D} (he : PE X ce (tBM (cxK X) "list" (rIndexD X.K) (tD (cxK X) go) (tCons (tD (cxK X) gx) tNil))) : DE X ce (gInd go gx) :=
  pe_imp he fun σ H Q q => by
    obtain ⟨F, ρ, d, ρ', s, eg, k⟩ := q
    obtain ⟨⟨o, ρ1⟩, e1, eg⟩ := bind_some eg
    obtain ⟨⟨dx, ρ2⟩, e2, eg⟩ := bind_some eg
    obtain ⟨z, e4, eg⟩ := bind_some eg
    cases eg
    obtain ⟨xs, rfl⟩ : ∃ xs, o = .list xs := by cases o <;> first | exact ⟨_, rfl⟩ | cases e4
    have e5 : (if SeqAt.shaped (.list xs) = true ∧ SeqAt.shaped dx = true then (ixOf dx xs 0).bind fun j => some (PyData.int (j : Nat)) else none) = some d := e4
    split at e5
    · rename_i ok
      obtain ⟨j, e6, e8⟩ := bind_some e5
      cases e8
      obtain ⟨_, ⟨zz, i1, i2⟩, i3⟩ := ixOf_some e6
      rw [Nat.sub_zero] at i1 i3
      refine ⟨F, ρ, _, ρ1, s, e1, fun v F1 H1 p1 s1 r1 => ?_⟩
      have r1' := r1
      cases r1' with
      | @lst a vs _ hs hr =>
        refine ⟨.inl ⟨rfl, vs, s1.sub.seq hs⟩, F1, ρ1, dx, ρ2, s1, e2, fun w F2 H2 p2 s2 r2 => ?_⟩
        have rl : Rp (cxK X) F2 (.ref a) (.list xs) := dp_mono p2.ff _ _ r1
        exact ⟨a, w, dx, xs, j, zz, rfl, rfl, rp_dp (dp_mono s2.sub _ _ rl) (SeqAt.canLay_of_shaped ok.1), rp_dp (dp_mono s2.sub _ _ r2) (SeqAt.canLay_of_shaped ok.2), ok.1, ok.2, i1, i2, i3, k _ F2 H2 (p1.trans p2) s2 (.int _)⟩
    · cases e5
/-- what is never reached -/
def sFail : Sd := fun _ => none
theorem ds_fail {st : Stmt} : DS X st sFail := ⟨fun pins s σ H E I q => by
  obtain ⟨F, ρ, f, ρ', _, eg, _⟩ := q
  cases eg⟩
end
end Dn
set_option maxHeartbeats 2000000
/-! a comprehension over a list of one's own, which stays one's own -/
namespace Dn
open PySem PySem.Spec PyProof.Rows L2 DnSo
def lOwnD : Option (Option Cell) → Option (List D)
  | some (some (.own _ (.list ds))) => some ds
  | _ => none
theorem lOwnD_some {o : Option (Option Cell)} {ds : List D} (h : lOwnD o = some ds) : ∃ b, o = some (some (.own b (.list ds))) := by
  unfold lOwnD at h
  split at h
  · cases h
    exact ⟨_, rfl⟩
  · cases h
def lcW (i0 : Nat) (vs : List Nat) (gt : D → Env → Option Env) (gc : Md Bool) (ge : Md D) : Nat → Nat → Env → Option (List D × Env)
  | 0, j, ρ => (lOwnD ρ[i0]?).bind fun ds => if ds.length ≤ j then some ([], ρ) else none
  | n + 1, j, ρ => (lOwnD ρ[i0]?).bind fun ds => match ds[j]? with
    | none => some ([], ρ)
    | some d => (gt d ρ).bind fun ρ1 => (gc ρ1).bind fun p => if p.1 = true then (ge p.2).bind fun q => (lcW i0 vs gt gc ge n (j + 1) (wipeE q.2 vs)).bind fun r => some (q.1 :: r.1, r.2) else lcW i0 vs gt gc ge n (j + 1) (wipeE p.2 vs)
def gLcW (i0 : Nat) (vs : List Nat) (gt : D → Env → Option Env) (gc : Md Bool) (ge : Md D) : Md D := fun ρ => (lOwnD ρ[i0]?).bind fun ds => if ds.length ≤ 16777216 ∧ vs.all (notOwn ρ) = true ∧ i0 ∉ vs then
  (lcW i0 vs gt gc ge ds.length 0 (wipeE ρ vs)).bind fun r => some (.list r.1, backE ρ vs r.2) else none
section
variable {X : Cx}
theorem lcW_q {i0 : Nat} {vs is : List Nat} (hv : ∀ j ∈ is, j ∈ vs) {gt : D → Env → Option Env} {gc : Md Bool} {ge : Md D} {σ : L2.St} {H : Hp} {Q : VK} (q : tF (cxK X) (gLcW i0 vs gt gc ge) σ H Q) : tLc (iSeq (cxK X) (tVar i0)) (tDG (cxK X) is gt) (tDT (cxK X) gc) (tD (cxK X) ge) vs σ H Q := by
  obtain ⟨F1, ρ1, d, ρ', s1, eg, k⟩ := q
  obtain ⟨ds, e1, eg1⟩ := bind_some eg
  split at eg1
  · rename_i hl
    obtain ⟨⟨rs, ρe⟩, e2, eg2⟩ := bind_some eg1
    cases eg2
    obtain ⟨b0, hown⟩ := lOwnD_some e1
    obtain ⟨a, ea, o0, _⟩ := st_owned s1 hown
    obtain ⟨_, xs0, hx0, rx0⟩ := own_lst o0
    refine ⟨.ref a, ea, .inr ⟨a, rfl, .inl ⟨⟨xs0, SqL.of hx0⟩, fun D hD => ?_⟩⟩⟩
    have hw := st_wipe s1 vs
    have hnv : ∀ i dd, ρ1[i]? = some (some (.own true dd)) → i ∉ vs := fun i dd e hi => not_own hl.2.1 hi e
    have p1w : Stp F1 σ ρ1 H F1 (wipe σ vs) (wipeE ρ1 vs) H := stp_wipe Stp.refl hnv
    have nD0 : ¬ Owns (wipe σ vs) (wipeE ρ1 vs) D := not_owns hw hD
    have eaw : (wipe σ vs)[i0]? = some (some (.ref a)) := by rw [wipe_out' hl.2.2]; exact ea
    have lst_at : ∀ {Fi : Hp} {Hi : Hp} {ρi : Env} {ds' : List PyData}, St (cxK X) Fi Hi (wipe σ vs) ρi → lOwnD ρi[i0]? = some ds' → ∃ xs, Hi a = some (.lst xs) ∧ RpAll (cxK X) Fi xs ds' := fun {Fi Hi ρi ds'} si h => by
      obtain ⟨b, hb⟩ := lOwnD_some h
      obtain ⟨a', ea', o', _⟩ := st_owned si hb
      rw [eaw] at ea'
      cases ea'
      obtain ⟨_, xs, hx, rx⟩ := own_lst o'
      exact ⟨xs, hx, rx⟩
    refine ⟨fun i m Hi => ∃ Fi ρi acc as rr, m + i = ds.length ∧ Stp F1 σ ρ1 H Fi (wipe σ vs) ρi Hi ∧ St (cxK X) Fi Hi (wipe σ vs) ρi ∧ lcW i0 vs gt gc ge m i ρi = some (rr, ρe) ∧ as ++ rr = rs ∧ (Fi D = none ∧ ¬ Owns (wipe σ vs) ρi D) ∧ Hi D = some (.lst acc) ∧ RpAll (cxK X) Fi acc as ∧ as.length ≤ i,
      ⟨ds.length, F1, wipeE ρ1 vs, [], [], rs, by simp, p1w.trans ((Grow.own s1.sub hD).stp _ _), hw.grow (Grow.own s1.sub hD), e2, by simp, ⟨none_sub s1.sub hD, nD0⟩, upd_same, .nil, by simp⟩, ?_⟩
    rintro i m Hi ⟨Fi, ρi, acc, as, rr, hmi, pi, si, ei, er, ⟨fD, nD⟩, hDi, ra, la⟩
    have stop : ∀ {ds' : List PyData}, lOwnD ρi[i0]? = some ds' → ds'.length ≤ i → (Itl (cxK X).K a).stop i Hi := fun {ds'} h hle => by
      obtain ⟨xs, hx, rx⟩ := lst_at si h
      exact ⟨xs, SqL.of hx, by rw [da_len rx]; exact hle⟩
    have endd : rr = [] → ρe = ρi → Q (.ref D) Hi := fun h1 h2 => by
      subst h1 h2
      rw [List.append_nil] at er
      subst er
      obtain ⟨pb, sb⟩ := stp_back pi (by rw [si.len, wipe_length, s1.len]) hl.2.1
      exact k D Fi Hi pb (st_back s1 si pi.ff hl.2.1) ⟨fD, .inl ⟨acc, as, rfl, hDi, ra⟩⟩ (fun z => nD (sb D z)) hD
    cases m with
    | zero =>
      obtain ⟨ds', h1, h2⟩ := bind_some ei
      split at h2
      · rename_i hle
        cases h2
        exact .inl ⟨stop h1 hle, endd rfl rfl⟩
      · cases h2
    | succ n =>
      obtain ⟨ds', h1, h2⟩ := bind_some ei
      cases hd : ds'[i]? with
      | none =>
        rw [hd] at h2
        cases h2
        exact .inl ⟨stop h1 (List.getElem?_eq_none_iff.mp hd), endd rfl rfl⟩
      | some d0 =>
        rw [hd] at h2
        obtain ⟨ρ2, e3, ei1⟩ := bind_some h2
        obtain ⟨⟨b, ρ3⟩, e4, ei2⟩ := bind_some ei1
        obtain ⟨xs, hx, rx⟩ := lst_at si h1
        obtain ⟨v0, hv0, rv0⟩ := da_at rx hd
        refine .inr ⟨⟨xs, v0, SqL.of hx, hv0⟩, fun H' => ∃ F' ρ'' acc' as' rr', Stp F1 σ ρ1 H F' (wipe σ vs) ρ'' H' ∧ St (cxK X) F' H' (wipe σ vs) ρ'' ∧ lcW i0 vs gt gc ge n (i + 1) ρ'' = some (rr', ρe) ∧ as' ++ rr' = rs ∧ (F' D = none ∧ ¬ Owns (wipe σ vs) ρ'' D) ∧ H' D = some (.lst acc') ∧ RpAll (cxK X) F' acc' as' ∧ as'.length ≤ i + 1,
          fun H' ⟨F', ρ'', acc', as', rr', z1, z2, z3, z4, z5, z6, z7, z8⟩ => ⟨n, by omega, F', ρ'', acc', as', rr', by omega, z1, z2, z3, z4, z5, z6, z7, z8⟩, fun v H' hy => ?_⟩
        obtain ⟨rfl, hy2⟩ := hy
        have ev := (hy2 xs (SqL.of hx)).symm.trans hv0
        cases ev
        refine ⟨Fi, ρi, d0, ρ2, si, rv0, e3, fun σ2 F2 H2 p2 s2 w2 => ?_⟩
        have ew : wipe σ2 vs = wipe σ vs := wipe_eq w2.2 hv (w2.1.trans (wipe_length σ vs))
        refine ⟨ew, F2, ρ2, b, ρ3, s2, e4, fun F3 H3 p3 s3 => ?_⟩
        have q3 := p2.trans p3
        have fin : ∀ (F4 : Hp) (ρ4 : Env) (H4 : Hp), Stp Fi (wipe σ vs) ρi H' F4 σ2 ρ4 H4 → St (cxK X) F4 H4 σ2 ρ4 → H4 D = some (.lst acc) ∧ F4 D = none ∧ ¬ Owns (wipe σ vs) (wipeE ρ4 vs) D ∧ Stp F1 σ ρ1 H F4 (wipe σ vs) (wipeE ρ4 vs) H4 ∧ St (cxK X) F4 H4 (wipe σ vs) (wipeE ρ4 vs) := fun F4 ρ4 H4 q s4 => by
          obtain ⟨h1, h2⟩ := q.keep D _ hDi nD
          have h3 := stp_wipe (pi.trans q) hnv
          have h4 := st_wipe s4 vs
          rw [ew] at h3 h4
          refine ⟨h1, h2.trans fD, fun z => ?_, h3, h4⟩
          obtain ⟨j, f, dd, z1, z2⟩ := z
          obtain ⟨z3, z4⟩ := wipeE_cell z1
          rw [← ew, wipe_out' z4] at z2
          rcases q.fresh D ⟨j, f, dd, z3, z2⟩ with y | y
          · exact nD y
          · rw [hDi] at y
            cases y
        cases b with
        | true =>
          rw [if_pos rfl] at ei2
          obtain ⟨⟨y, ρ4⟩, e5, ei3⟩ := bind_some ei2
          obtain ⟨⟨r, ρ5⟩, e6, ei4⟩ := bind_some ei3
          cases ei4
          refine ⟨F3, ρ3, y, ρ4, s3, e5, fun u F4 H4 p4 s4 r4 => ?_⟩
          have q4 := q3.trans p4
          obtain ⟨h1, h2, h3, h4, h5⟩ := fin F4 ρ4 H4 q4 s4
          refine ⟨acc, h1, by rw [line_eq, da_len ra]; omega, F4, wipeE ρ4 vs, acc ++ [u], as ++ [y], r, stp_side h4 hD, st_side h5 h2 h3, e6, by rw [List.append_assoc]; exact er, ⟨h2, h3⟩, upd_same, da_app (dpAll_mono q4.ff _ _ ra) (.cons r4 .nil), by rw [List.length_append]; simpa using la⟩
        | false =>
          rw [if_neg Bool.false_ne_true] at ei2
          obtain ⟨h1, h2, h3, h4, h5⟩ := fin F3 ρ3 H3 q3 s3
          exact ⟨F3, wipeE ρ3 vs, acc, as, rr, h4, h5, ei2, er, ⟨h2, h3⟩, h1, dpAll_mono q3.ff _ _ ra, by omega⟩
  · cases eg1
theorem df_lcW {e : Expr} (i0 : Nat) {vs is : List Nat} {gt : D → Env → Option Env} {gc : Md Bool} {ge : Md D} (h : PE X e (tLc (iSeq (cxK X) (tVar i0)) (tDG (cxK X) is gt) (tDT (cxK X) gc) (tD (cxK X) ge) vs)) (hv : ∀ j ∈ is, j ∈ vs := by decide) : DF X e (gLcW i0 vs gt gc ge) := pe_imp h fun _ _ _ q => lcW_q hv q
theorem ds_lcW {st : Stmt} {i : Nat} (i0 : Nat) {vs is : List Nat} {gt : D → Env → Option Env} {gc : Md Bool} {ge : Md D} (h : PS X st (fun E σ H => tLc (iSeq (cxK X) (tVar i0)) (tDG (cxK X) is gt) (tDT (cxK X) gc) (tD (cxK X) ge) vs σ H fun v H1 => E.nx (σ.set i (some v)) H1)) (hv : ∀ j ∈ is, j ∈ vs := by decide) : DS X st (sOwn i (gLcW i0 vs gt gc ge)) :=
  ps_imp h fun E σ H q => by
    obtain ⟨F, ρ, f, ρ', s, eg, k⟩ := q
    obtain ⟨⟨d, ρ1⟩, e1, eg1⟩ := bind_some eg
    obtain ⟨r, e2, eg2⟩ := bind_some eg1
    cases eg2
    refine lcW_q hv ⟨F, ρ, d, ρ1, s, e1, fun a F1 H1 p1 s1 o no hn => k _ F1 H1 (stp_set p1 e2 fun _ _ b _ z => ?_) (st_set s1 e2 ⟨a, rfl, o⟩ fun f _ b z1 z => ?_)⟩
    · cases z
      exact hn
    · cases z
      cases z1
      exact ⟨rfl, no⟩
end
end Dn
set_option maxHeartbeats 2000000
/-! a, b, c = x, y, z -/
namespace Dn
open PySem PySem.Spec PyProof.Rows L2 DnSo
def three : List D → Option (D × D × D)
  | [a, b, c] => some (a, b, c)
  | _ => none
def sPar3 (i j l : Nat) (gs : Md (List D)) : Sd := fun ρ => (gs ρ).bind fun p => (three p.1).bind fun t => (setC i (.val t.1) p.2).bind fun ρ1 => (setC j (.val t.2.1) ρ1).bind fun ρ2 => (setC l (.val t.2.2) ρ2).bind fun ρ3 => some (.nx, ρ3)
section
variable {X : Cx} {pos : Pos}
theorem ds_par3 {i j l : Nat} {x y z : Str} {a b c : Expr} {gs : Md (List D)} {px py pz pt : Pos} {kt k2 pt2} (hc : X.calm = true) (hN : X.N.Nodup) (ha : DA X [a, b, c] gs) (hi : X.N[i]? = some x := by rfl) (hj : X.N[j]? = some y := by rfl) (hl : X.N[l]? = some z := by rfl) (hij : i ≠ j := by decide) (hil : i ≠ l := by decide) (hjl : j ≠ l := by decide)
    (hx : X.env.scope.names.lookup x = some .local := by rfl) (hy : X.env.scope.names.lookup y = some .local := by rfl) (hz : X.env.scope.names.lookup z = some .local := by rfl)
    (hw : swappedStores [.Tuple [.Name x px, .Name y py, .Name z pz] kt pt] (.Tuple [a, b, c] k2 pt2) X.env = pure (some [x, y, z]) := by rfl)
    (hs : swapsWithSole [.Tuple [.Name x px, .Name y py, .Name z pz] kt pt] (.Tuple [a, b, c] k2 pt2) pos.line X.env = pure false := by rfl) :
    DS X (.Assign [.Tuple [.Name x px, .Name y py, .Name z pz] kt pt] (.Tuple [a, b, c] k2 pt2) pos) (sPar3 i j l gs) :=
  ps_imp (ps_par3 hc hN hi hj hl hij hil hjl hx hy hz ha hw hs) fun E σ H q => by
    obtain ⟨F, ρ, f, ρ', s, eg, k⟩ := q
    obtain ⟨⟨ds, ρ0⟩, e1, eg⟩ := bind_some eg
    obtain ⟨⟨d1, d2, d3⟩, e2, eg⟩ := bind_some eg
    obtain ⟨ρ1, e3, eg⟩ := bind_some eg
    obtain ⟨ρ2, e4, eg⟩ := bind_some eg
    obtain ⟨ρ3, e5, eg⟩ := bind_some eg
    cases eg
    have eds : ds = [d1, d2, d3] := by
      unfold three at e2
      split at e2
      · cases e2
        assumption
      · cases e2
    subst eds
    refine ⟨F, ρ, _, ρ0, s, e1, fun vs F1 H1 p1 s1 r1 => ?_⟩
    cases r1 with
    | @cons v1 _ _ _ r1 r2 =>
      cases r2 with
      | @cons v2 _ _ _ r2 r3 =>
        cases r3 with
        | @cons v3 _ _ _ r3 r4 =>
          cases r4
          have t1 := st_set (v := v1) s1 e3 ⟨v1, rfl, r1⟩ fun _ _ _ z => nomatch z
          have t2 := st_set (v := v2) t1 e4 ⟨v2, rfl, r2⟩ fun _ _ _ z => nomatch z
          have t3 := st_set (v := v3) t2 e5 ⟨v3, rfl, r3⟩ fun _ _ _ z => nomatch z
          have q1 := stp_set (v := v1) p1 e3 fun _ _ _ z => nomatch z
          have q2 := stp_set (v := v2) q1 e4 fun _ _ _ z => nomatch z
          have q3 := stp_set (v := v3) q2 e5 fun _ _ _ z => nomatch z
          exact ⟨v1, v2, v3, rfl, k _ F1 H1 q3 t3⟩
end
end Dn
set_option maxHeartbeats 2000000
/-! xs + ys: a new list of one's own -/
namespace Dn
open PySem PySem.Spec PyProof.Rows L2 DnSo
def addL2 : D → D → Option D
  | .list xs, .list ys => if xs.length + ys.length ≤ 16777216 then some (.list (xs ++ ys)) else none
  | _, _ => none
def rF2 (K : Kx) (f : D → D → Option D) : R2 := fun x y H Q => ∃ (F : Hp) (d e r : D), Same F H ∧ Rp K F x d ∧ Rp K F y e ∧ f d e = some r ∧ ∀ a F' H', Grow F H F' H' → OwnAt K F' H' a r → H a = none → Q (.ref a) H'
section
variable {X : Cx} {a b : Expr} {pos : Pos}
theorem op_addL : OpR X (binaryOp .Add) (rF2 (cxK X) addL2) := by
  intro pins s σ H x y v u Q I rx ry h
  obtain ⟨F, d, e, r, sf, hd, he, ef, k⟩ := h
  unfold addL2 at ef
  split at ef
  · split at ef
    · rename_i as bs hl
      cases ef
      cases hd with
      | lst h1 d1 =>
        cases he with
        | lst h2 d2 =>
          cases rx
          cases ry
          rename_i l xs b ys
          obtain ⟨its, r1, p1, z1⟩ := I.list (sf.seq h1)
          obtain ⟨its2, r2, p2, z2⟩ := I.list (sf.seq h2)
          obtain ⟨o1, n1, g1, c1, q1, t1⟩ := p1
          obtain ⟨o2, n2, g2, c2, q2, t2⟩ := p2
          obtain ⟨cls, dd, data, sl⟩ := o1
          obtain ⟨cls2, dd2, data2, sl2⟩ := o2
          simp only at c1 q1 t1 c2 q2 t2
          subst c1 q1 t1 c2 q2 t2
          have hsz : xs.length + ys.length ≤ sizeLine := by rw [line_eq, da_len d1, da_len d2]; exact hl
          refine concat_meets ⟨_, g1, rfl⟩ ⟨_, g2, rfl⟩ noFill_list_add seq_list_add PySem.F.slot_list_add PySem.F.entry_list_add (PySem.F.args_list_add_2 _ _)
            (list_addW l b its.toArray its2.toArray n1 n2 none none sl sl2 (by simpa [← r1.length, ← r2.length] using hsz)) ⟨g1, g2, ?_⟩
          have ea : its.toArray ++ its2.toArray = (its ++ its2).toArray := by simp
          rw [ea]
          have hp : H s.heap.objs.size = none := I.fresh
          have gr : Grow F H F (upd H s.heap.objs.size (.lst (xs ++ ys))) := Grow.own sf hp
          exact ⟨.ref _, _, I.lnew (t' := s.toks) (r1.append r2) (by rw [List.length_append]; exact hsz), rfl, k _ _ _ gr (own_new sf hp (da_app d1 d2)) hp⟩
    · cases ef
  · cases ef
theorem df_addB {ga gb : Md D} (ha : DE X a ga) (hb : DE X b gb) : DF X (.BinOp a .Add b pos) (gBin addL2 ga gb) :=
  pe_imp (pe_op op_addL ha hb) fun σ H Q q => by
    obtain ⟨F, ρ, d, ρ', s, eg, k⟩ := q
    obtain ⟨⟨x, ρ1⟩, e1, eg⟩ := bind_some eg
    obtain ⟨⟨y, ρ2⟩, e2, eg⟩ := bind_some eg
    obtain ⟨z, e3, eg⟩ := bind_some eg
    cases eg
    exact ⟨F, ρ, x, ρ1, s, e1, fun v F1 H1 p1 s1 r1 => ⟨F1, ρ1, y, ρ2, s1, e2, fun u F2 H2 p2 s2 r2 => ⟨F2, x, y, _, s2.sub, dp_mono p2.ff _ _ r1, r2, e3, fun w F3 H3 gr o hn =>
      k w F3 H3 (p1.trans (p2.trans (gr.stp σ ρ2))) (s2.grow gr) o (not_owns s2 hn) ((p1.trans p2).none hn)⟩⟩⟩
end
end Dn
set_option maxHeartbeats 2000000
/-! groups, each a list of its key and the list of its items, found by a word, turn by turn -/
namespace Dn
open PySem PySem.Spec PyProof.Rows L2 DnSo
abbrev Gp := D × List D
def gpD (e : Gp) : D := .list [e.1, .list e.2]
def putG : List Gp → List Bool → D → List Gp
  | e :: es, b :: bs, x => if b = true then (e.1, e.2 ++ [x]) :: es else e :: putG es bs x
  | es, _, _ => es
def lenB : List Gp → List Bool → Nat
  | e :: es, b :: bs => if b = true then e.2.length else lenB es bs
  | _, _ => 0
def selG : List Gp → List Bool → List D
  | e :: es, b :: bs => if b = true then gpD e :: selG es bs else selG es bs
  | _, _ => []
def selA : List (Addr × Addr) → List Bool → List V
  | g :: gs, b :: bs => if b = true then .ref g.1 :: selA gs bs else selA gs bs
  | _, _ => []
def adrs : List (Addr × Addr) → List Addr
  | [] => []
  | g :: gs => g.1 :: g.2 :: adrs gs
inductive RpL (K : Kx) (F H : Hp) : List (Addr × Addr) → List Gp → Prop
  | nil : RpL K F H [] []
  | cons {g r : Addr} {kv : V} {vs : List V} {dk : D} {ds : List D} {gs : List (Addr × Addr)} {es : List Gp} (fg : F g = none) (fr : F r = none) (hg : H g = some (.lst [kv, .ref r])) (hr : H r = some (.lst vs)) (rk : Rp K F kv dk) (rv : RpAll K F vs ds) (n1 : g ≠ r) (n2 : g ∉ adrs gs) (n3 : r ∉ adrs gs) (t : RpL K F H gs es) : RpL K F H ((g, r) :: gs) ((dk, ds) :: es)
theorem adrs_in1 {g r : Addr} {gs : List (Addr × Addr)} : g ∈ adrs ((g, r) :: gs) := List.mem_cons_self
theorem adrs_in2 {g r : Addr} {gs : List (Addr × Addr)} : r ∈ adrs ((g, r) :: gs) := List.mem_cons_of_mem _ List.mem_cons_self
theorem adrs_in3 {b g r : Addr} {gs : List (Addr × Addr)} (h : b ∈ adrs gs) : b ∈ adrs ((g, r) :: gs) := List.mem_cons_of_mem _ (List.mem_cons_of_mem _ h)
theorem adrs_app {b g r : Addr} : ∀ {gs : List (Addr × Addr)}, b ∈ adrs (gs ++ [(g, r)]) → b ∈ adrs gs ∨ b = g ∨ b = r
  | [], h => by
    simp [adrs] at h
    exact .inr h
  | (g', r') :: gs, h => by
    rcases List.mem_cons.mp h with rfl | h
    · exact .inl adrs_in1
    · rcases List.mem_cons.mp h with rfl | h
      · exact .inl adrs_in2
      · rcases adrs_app h with h | h
        · exact .inl (adrs_in3 h)
        · exact .inr h
theorem RpL.mono {K : Kx} {F F' H H' : Hp} (f : Same F F') : ∀ {gs es}, RpL K F H gs es → (∀ b ∈ adrs gs, F' b = F b ∧ H' b = H b) → RpL K F' H' gs es
  | _, _, .nil, _ => .nil
  | _, _, .cons fg fr hg hr rk rv n1 n2 n3 t, h => by
    obtain ⟨e1, e2⟩ := h _ adrs_in1
    obtain ⟨e3, e4⟩ := h _ adrs_in2
    exact .cons (e1.trans fg) (e3.trans fr) (e2.trans hg) (e4.trans hr) (dp_mono f _ _ rk) (dpAll_mono f _ _ rv) n1 n2 n3 (t.mono f fun b hb => h b (adrs_in3 hb))
theorem RpL.len {K : Kx} {F H : Hp} : ∀ {gs es}, RpL K F H gs es → gs.length = es.length
  | _, _, .nil => rfl
  | _, _, .cons _ _ _ _ _ _ _ _ _ t => congrArg (· + 1) t.len
theorem RpL.free {K : Kx} {F H : Hp} : ∀ {gs es}, RpL K F H gs es → ∀ b ∈ adrs gs, F b = none ∧ ∃ vs, H b = some (.lst vs)
  | _, _, .nil, b, hb => by cases hb
  | _, _, .cons fg fr hg hr _ _ _ _ _ t, b, hb => by
    rcases List.mem_cons.mp hb with rfl | hb
    · exact ⟨fg, _, hg⟩
    · rcases List.mem_cons.mp hb with rfl | hb
      · exact ⟨fr, _, hr⟩
      · exact t.free b hb
theorem RpL.rpAll {K : Kx} {F H : Hp} {A : List Addr} (h0 : ∀ b ∈ A, F b = none) : ∀ {gs es}, RpL K F H gs es → (∀ b ∈ adrs gs, b ∈ A) → RpAll K (ext F H A) (gs.map fun g => V.ref g.1) (es.map gpD)
  | _, _, .nil, _ => .nil
  | _, _, .cons fg fr hg hr rk rv n1 n2 n3 t, h => by
    have f := ext_same (H := H) h0
    refine .cons (.lst (SqL.of (by rw [ext_in (h _ adrs_in1)]; exact hg)) (.cons (dp_mono f _ _ rk) (.cons (.lst (SqL.of (by rw [ext_in (h _ adrs_in2)]; exact hr)) (dpAll_mono f _ _ rv)) .nil))) (t.rpAll h0 fun b hb => h b (adrs_in3 hb))
theorem rp_sel {K : Kx} {F : Hp} : ∀ {gs : List (Addr × Addr)} {es : List Gp} (bs : List Bool), RpAll K F (gs.map fun g => V.ref g.1) (es.map gpD) → RpAll K F (selA gs bs) (selG es bs)
  | [], [], bs, _ => by cases bs <;> exact .nil
  | [], _ :: _, _, h => by cases h
  | _ :: _, [], _, h => by cases h
  | g :: gs, e :: es, [], _ => .nil
  | g :: gs, e :: es, b :: bs, h => by
    cases h with
    | cons h1 h2 =>
      unfold selA selG
      cases b with
      | true => exact .cons h1 (rp_sel bs h2)
      | false => exact rp_sel bs h2
theorem RpL.snoc {K : Kx} {F H : Hp} {g r : Addr} {kv : V} {vs : List V} {dk : D} {ds : List D} (fg : F g = none) (fr : F r = none) (hg : H g = some (.lst [kv, .ref r])) (hr : H r = some (.lst vs)) (rk : Rp K F kv dk) (rv : RpAll K F vs ds) (n1 : g ≠ r) : ∀ {gs es}, RpL K F H gs es → g ∉ adrs gs → r ∉ adrs gs → RpL K F H (gs ++ [(g, r)]) (es ++ [(dk, ds)])
  | _, _, .nil, _, _ => .cons fg fr hg hr rk rv n1 (by simp [adrs]) (by simp [adrs]) .nil
  | _, _, .cons (g := g') (r := r') fg' fr' hg' hr' rk' rv' n1' n2' n3' t, m1, m2 => by
    have a1 : g' ≠ g := fun z => m1 (z ▸ adrs_in1)
    have a2 : r' ≠ g := fun z => m1 (z ▸ adrs_in2)
    have a3 : g' ≠ r := fun z => m2 (z ▸ adrs_in1)
    have a4 : r' ≠ r := fun z => m2 (z ▸ adrs_in2)
    refine .cons fg' fr' hg' hr' rk' rv' n1' (fun z => ?_) (fun z => ?_) (t.snoc fg fr hg hr rk rv n1 (fun z => m1 (adrs_in3 z)) fun z => m2 (adrs_in3 z))
    · rcases adrs_app z with z | z | z
      · exact n2' z
      · exact a1 z
      · exact a3 z
    · rcases adrs_app z with z | z | z
      · exact n3' z
      · exact a2 z
      · exact a4 z
theorem RpL.put {K : Kx} {F H : Hp} : ∀ {gs es} (bs : List Bool), RpL K F H gs es → selG es bs ≠ [] → ∃ g r kv vs rest, r ∈ adrs gs ∧ selA gs bs = V.ref g :: rest ∧ H g = some (.lst [kv, .ref r]) ∧ H r = some (.lst vs) ∧ vs.length = lenB es bs ∧ ∀ xv x, Rp K F xv x → RpL K F (upd H r (.lst (vs ++ [xv]))) gs (putG es bs x)
  | _, _, bs, .nil, h => by cases bs <;> exact absurd rfl h
  | _, _, [], .cons _ _ _ _ _ _ _ _ _ _, h => absurd rfl h
  | _, _, b :: bs, .cons (g := g) (r := r) (kv := kv) (vs := vs) fg fr hg hr rk rv n1 n2 n3 t, h => by
    cases b with
    | true =>
      refine ⟨g, r, kv, vs, _, adrs_in2, rfl, hg, hr, da_len rv, fun xv x rx => ?_⟩
      unfold putG
      rw [if_pos rfl]
      exact .cons fg fr (by rw [upd_ne n1]; exact hg) upd_same rk (da_app rv (.cons rx .nil)) n1 n2 n3 (t.mono (Same.refl _) fun b hb => ⟨rfl, upd_ne fun z => n3 (z ▸ hb)⟩)
    | false =>
      obtain ⟨g', r', kv', vs', rest, m, h1, h2, h3, h4, h5⟩ := t.put bs h
      refine ⟨g', r', kv', vs', rest, adrs_in3 m, h1, h2, h3, h4, fun xv x rx => ?_⟩
      unfold putG
      rw [if_neg Bool.false_ne_true]
      exact .cons fg fr (by rw [upd_ne (fun z : g = r' => n2 (z ▸ m))]; exact hg) (by rw [upd_ne (fun z : r = r' => n3 (z ▸ m))]; exact hr) rk rv n1 n2 n3 (h5 xv x rx)
theorem selA_snoc {b : Bool} : ∀ {gs : List (Addr × Addr)} {b1 : List Bool} {g : Addr × Addr}, gs[b1.length]? = some g → selA gs (b1 ++ [b]) = if b = true then selA gs b1 ++ [V.ref g.1] else selA gs b1
  | [], b1, g, h => by simp at h
  | g' :: gs, [], g, h => by
    simp at h
    subst h
    cases b <;> simp [selA]
  | g' :: gs, c :: b1, g, h => by
    have h2 : gs[b1.length]? = some g := by simpa using h
    have ih := selA_snoc (b := b) h2
    rw [List.cons_append]
    unfold selA
    rw [ih]
    cases b <;> cases c <;> simp
def noOwn (ρ : Env) : Bool := ρ.all fun c => match c with
  | some (.own _ _) => false
  | _ => true
theorem noOwn_at {ρ : Env} (h : noOwn ρ = true) {i : Nat} {f : Bool} {d : D} : ρ[i]? ≠ some (some (.own f d)) := fun e => by
  have := List.all_eq_true.mp h _ (List.mem_of_getElem? e)
  cases this
theorem noOwn_no {ρ : Env} (h : noOwn ρ = true) {σ : L2.St} {b : Addr} : ¬ Owns σ ρ b := fun ⟨_, _, _, e, _⟩ => noOwn_at h e
theorem noOwn_set {ρ : Env} (h : noOwn ρ = true) {i : Nat} {c : Option Cell} (hc : ∀ f d, c ≠ some (.own f d)) : noOwn (ρ.set i c) = true := by
  unfold noOwn at h ⊢
  rw [List.all_eq_true] at h ⊢
  intro x hx
  rcases List.mem_or_eq_of_mem_set hx with hx | rfl
  · exact h x hx
  · cases x with
    | none => rfl
    | some c => cases c with
      | val _ => rfl
      | own f d => exact absurd rfl (hc f d)
theorem st_all_vals {K : Kx} {F H F' H' : Hp} {σ : L2.St} {ρ : Env} (s : St K F H σ ρ) (n : noOwn ρ = true) (f : Same F F') (h : Same F' H') : St K F' H' σ ρ where
  sub := h
  len := s.len
  cell := fun i c e => by
    cases c with
    | val d =>
      obtain ⟨v, e1, r⟩ := s.cell i _ e
      exact ⟨v, e1, dp_mono f _ _ r⟩
    | own b d => exact absurd e (noOwn_at n)
  dist := fun i j f g d e a h1 => absurd h1 (noOwn_at n)
theorem stp_all_vals {F0 F : Hp} {σ0 σ σ' : L2.St} {ρ0 ρ ρ' : Env} {H0 H H' : Hp} (p : Stp F0 σ0 ρ0 H0 F σ ρ H) (n : noOwn ρ = true) (n' : noOwn ρ' = true) (h : ∀ b o, H b = some o → H' b = some o) : Stp F0 σ0 ρ0 H0 F σ' ρ' H' :=
  ⟨p.ff, fun b o e no => let ⟨a, c⟩ := p.keep b o e no; ⟨h b o a, c⟩, fun b z => absurd z (noOwn_no n'), fun i d e => by
    obtain ⟨_, d', e2⟩ := p.fix i d e
    exact absurd e2 (noOwn_at n), fun b o e => let ⟨o', e'⟩ := p.dom b o e; ⟨o', h b o' e'⟩⟩
/-- the groups, beside the state -/
structure Gm (K : Kx) (F H : Hp) (σ : L2.St) (ρ : Env) (H0 : Hp) (i : Nat) (a : Addr) (gs : List (Addr × Addr)) (es : List Gp) : Prop where
  slot : σ[i]? = some (some (.ref a))
  fa : F a = none
  ha : H a = some (.lst (gs.map fun g => V.ref g.1))
  rg : RpL K F H gs es
  na : a ∉ adrs gs
  own : ∀ b ∈ adrs gs, ¬ Owns σ ρ b ∧ H0 b = none
  no : ¬ Owns σ ρ a
theorem Gm.step {K : Kx} {F H F' H' : Hp} {σ σ' : L2.St} {ρ ρ' : Env} {H0 : Hp} {i : Nat} {a : Addr} {gs es} (g : Gm K F H σ ρ H0 i a gs es) (p : Stp F σ ρ H F' σ' ρ' H') (e : σ'[i]? = σ[i]?) : Gm K F' H' σ' ρ' H0 i a gs es := by
  have kp : ∀ b ∈ adrs gs, F' b = F b ∧ H' b = H b := fun b hb => by
    obtain ⟨vs, hv⟩ := (g.rg.free b hb).2
    obtain ⟨k1, k2⟩ := p.keep b _ hv (g.own b hb).1
    exact ⟨k2, k1.trans hv.symm⟩
  have fr : ∀ b, (∃ o, H b = some o) → ¬ Owns σ ρ b → ¬ Owns σ' ρ' b := fun b ho hn z => by
    rcases p.fresh b z with q | q
    · exact hn q
    · obtain ⟨o, ho⟩ := ho
      rw [q] at ho
      cases ho
  obtain ⟨k1, k2⟩ := p.keep a _ g.ha g.no
  exact ⟨e.trans g.slot, k2.trans g.fa, k1, g.rg.mono p.ff kp, g.na, fun b hb => ⟨fr b (let ⟨vs, hv⟩ := (g.rg.free b hb).2; ⟨_, hv⟩) (g.own b hb).1, (g.own b hb).2⟩, fr a ⟨_, g.ha⟩ g.no⟩
theorem Gm.on {K : Kx} {F H H' : Hp} {σ σ' : L2.St} {ρ ρ' : Env} {H0 : Hp} {i : Nat} {a : Addr} {gs es} (g : Gm K F H σ ρ H0 i a gs es) (h : ∀ b o, H b = some o → H' b = some o) (e : σ'[i]? = σ[i]?) (n : noOwn ρ' = true) : Gm K F H' σ' ρ' H0 i a gs es :=
  ⟨e.trans g.slot, g.fa, h _ _ g.ha, g.rg.mono (Same.refl _) fun b hb => by
    obtain ⟨_, vs, hv⟩ := g.rg.free b hb
    exact ⟨rfl, (h _ _ hv).trans hv.symm⟩, g.na, fun b hb => ⟨noOwn_no n, (g.own b hb).2⟩, noOwn_no n⟩
def selB (v : Nat) (gc : Md Bool) : List Gp → Env → Option (List Bool × Env)
  | [], ρ => some ([], ρ)
  | e :: es, ρ => (setC v (.val (gpD e)) ρ).bind fun ρ1 => (gc ρ1).bind fun r => (selB v gc es (wipeE r.2 [v])).bind fun q => some (r.1 :: q.1, q.2)
section
variable {X : Cx} {pos : Pos}
theorem sel_q {i v : Nat} {gc : Md Bool} {F H : Hp} {σ : L2.St} {ρ : Env} {H0 : Hp} {a : Addr} {gs : List (Addr × Addr)} {es : List Gp} (hiv : i ≠ v) (s : St (cxK X) F H σ ρ) (g : Gm (cxK X) F H σ ρ H0 i a gs es) (hn : noOwn ρ = true) {bs : List Bool} {ρe : Env}
    (e2 : selB v gc es (wipeE ρ [v]) = some (bs, ρe)) (hl : es.length ≤ 16777216) {Q : VK}
    (k : ∀ D H', (∀ b o, H b = some o → H' b = some o) → H D = none → H' D = some (.lst (selA gs bs)) → Q (.ref D) H') :
    tLc (iSeq (cxK X) (tVar i)) (gName v) (tDT (cxK X) gc) (tVar v) [v] σ H Q := by
  have fr : ∀ b ∈ adrs gs, F b = none := fun b hb => (g.rg.free b hb).1
  have sx : St (cxK X) (ext F H (adrs gs)) H σ ρ := st_all_vals s hn (ext_same fr) (ext_sub s.sub)
  have rx := g.rg.rpAll (A := adrs gs) fr fun _ h => h
  have hln := g.rg.len
  refine ⟨.ref a, g.slot, .inr ⟨a, rfl, .inl ⟨⟨_, SqL.of g.ha⟩, fun D hD => ?_⟩⟩⟩
  have hw := st_wipe sx [v]
  have hnv : ∀ j dd, ρ[j]? = some (some (.own true dd)) → j ∉ [v] := fun j dd e => absurd e (noOwn_at hn)
  have p1w : Stp (ext F H (adrs gs)) σ ρ H (ext F H (adrs gs)) (wipe σ [v]) (wipeE ρ [v]) H := stp_wipe Stp.refl hnv
  have nD0 : ¬ Owns (wipe σ [v]) (wipeE ρ [v]) D := not_owns hw hD
  refine ⟨fun j m Hi => ∃ Fi ρi b1 b2, m + j = es.length ∧ Stp (ext F H (adrs gs)) σ ρ H Fi (wipe σ [v]) ρi Hi ∧ St (cxK X) Fi Hi (wipe σ [v]) ρi ∧ selB v gc (es.drop j) ρi = some (b2, ρe) ∧ b1 ++ b2 = bs ∧ b1.length = j ∧ (Fi D = none ∧ ¬ Owns (wipe σ [v]) ρi D) ∧ Hi D = some (.lst (selA gs b1)),
    ⟨es.length, ext F H (adrs gs), wipeE ρ [v], [], bs, by simp, p1w.trans ((Grow.own sx.sub hD).stp _ _), hw.grow (Grow.own sx.sub hD), by simpa using e2, rfl, rfl, ⟨none_sub sx.sub hD, nD0⟩, by rw [upd_same]; cases gs <;> rfl⟩, ?_⟩
  rintro j m Hi ⟨Fi, ρi, b1, b2, hmj, pi, si, ei, er, el, ⟨fD, nD⟩, hDi⟩
  have hai : Hi a = some (.lst (gs.map fun g => V.ref g.1)) := (pi.keep a _ g.ha (noOwn_no hn)).1
  by_cases hlt : j < es.length
  · have hge : gs[j]? = some gs[j] := List.getElem?_eq_getElem (by omega)
    have hee : es[j]? = some es[j] := List.getElem?_eq_getElem hlt
    have hv0 : (gs.map fun g => V.ref g.1)[j]? = some (V.ref gs[j].1) := by rw [List.getElem?_map, hge]; rfl
    have hd0 : (es.map gpD)[j]? = some (gpD es[j]) := by rw [List.getElem?_map, hee]; rfl
    rw [drop_cons hee] at ei
    obtain ⟨ρ2, e3, ei1⟩ := bind_some ei
    obtain ⟨⟨b, ρ3⟩, e4, ei2⟩ := bind_some ei1
    obtain ⟨⟨b3, ρ4⟩, e5, ei3⟩ := bind_some ei2
    cases ei3
    obtain ⟨w0, hw0, rw0⟩ := da_at rx hd0
    rw [hv0] at hw0
    cases hw0
    refine .inr ⟨⟨_, _, SqL.of hai, hv0⟩, fun H' => ∃ Fi ρi b1 b2, j + 1 ≤ es.length ∧ Stp (ext F H (adrs gs)) σ ρ H Fi (wipe σ [v]) ρi H' ∧ St (cxK X) Fi H' (wipe σ [v]) ρi ∧ selB v gc (es.drop (j + 1)) ρi = some (b2, ρ4) ∧ b1 ++ b2 = bs ∧ b1.length = j + 1 ∧ (Fi D = none ∧ ¬ Owns (wipe σ [v]) ρi D) ∧ H' D = some (.lst (selA gs b1)),
      fun H' ⟨F', ρ', b1', b2', z1, z2, z3, z4, z5, z6, z7, z8⟩ => ⟨m - 1, by omega, F', ρ', b1', b2', by omega, z2, z3, z4, z5, z6, z7, z8⟩, fun x H' hy => ?_⟩
    obtain ⟨rfl, hy2⟩ := hy
    have ev := (hy2 _ (SqL.of hai)).symm.trans hv0
    cases ev
    have rvi := dp_mono pi.ff _ _ rw0
    have s2 := st_set (v := V.ref gs[j].1) si e3 ⟨_, rfl, rvi⟩ fun _ _ _ z => nomatch z
    have p2 := stp_set (v := V.ref gs[j].1) (Stp.refl (F := Fi) (σ := wipe σ [v]) (ρ := ρi) (H := H')) e3 fun _ _ _ z => nomatch z
    have hvl : v < (wipe σ [v]).length := by
      have := si.len
      have h1 : ρi[v]? ≠ none := fun z => by
        unfold setC at e3
        rw [z] at e3
        cases e3
      have := (List.getElem?_eq_some_iff.mp (Option.ne_none_iff_exists'.mp h1).choose_spec).1
      omega
    have hsv : ((wipe σ [v]).set v (some (V.ref gs[j].1)))[v]? = some (some (V.ref gs[j].1)) := List.getElem?_set_self hvl
    have ew : wipe ((wipe σ [v]).set v (some (V.ref gs[j].1))) [v] = wipe σ [v] := by
      show (((σ.set v none).set v _).set v none) = σ.set v none
      rw [List.set_set, List.set_set]
    refine ⟨ew, Fi, ρ2, b, ρ3, s2, e4, fun F3 H3 p3 s3 => ?_⟩
    have q3 := p2.trans p3
    have fin : H3 D = some (.lst (selA gs b1)) ∧ F3 D = none ∧ ¬ Owns (wipe σ [v]) (wipeE ρ3 [v]) D ∧ Stp (ext F H (adrs gs)) σ ρ H F3 (wipe σ [v]) (wipeE ρ3 [v]) H3 ∧ St (cxK X) F3 H3 (wipe σ [v]) (wipeE ρ3 [v]) := by
      obtain ⟨h1, h2⟩ := q3.keep D _ hDi nD
      have h3 := stp_wipe (pi.trans q3) hnv
      have h4 := st_wipe s3 [v]
      rw [ew] at h3 h4
      refine ⟨h1, h2.trans fD, fun z => ?_, h3, h4⟩
      obtain ⟨l, f, dd, z1, z2⟩ := z
      obtain ⟨z3, z4⟩ := wipeE_cell z1
      rw [← ew, wipe_out' z4] at z2
      rcases q3.fresh D ⟨l, f, dd, z3, z2⟩ with y | y
      · exact nD y
      · rw [hDi] at y
        cases y
    obtain ⟨h1, h2, h3, h4, h5⟩ := fin
    have hse := selA_snoc (b := b) (b1 := b1) (by rw [el]; exact hge)
    have hsl : (selA gs b1).length < sizeLine := by
      have : ∀ (gs : List (Addr × Addr)) (b1 : List Bool), (selA gs b1).length ≤ b1.length := by
        intro gs
        induction gs with
        | nil => intro b1; cases b1 <;> simp [selA]
        | cons g gs ih =>
          intro b1
          cases b1 with
          | nil => simp [selA]
          | cons c b1 =>
            unfold selA
            have := ih b1
            cases c <;> simp <;> omega
      have := this gs b1
      rw [line_eq]
      omega
    cases b with
    | true =>
      refine ⟨_, hsv, _, h1, hsl, F3, wipeE ρ3 [v], b1 ++ [true], b3, by omega, stp_side h4 hD, st_side h5 h2 h3, e5, by rw [List.append_assoc]; exact er, by simp [el], ⟨h2, h3⟩, ?_⟩
      rw [upd_same, hse, if_pos rfl]
    | false =>
      refine ⟨F3, wipeE ρ3 [v], b1 ++ [false], b3, by omega, h4, h5, e5, by rw [List.append_assoc]; exact er, by simp [el], ⟨h2, h3⟩, ?_⟩
      rw [h1, hse, if_neg Bool.false_ne_true]
  · have hj : j = es.length := by omega
    subst hj
    rw [List.drop_length] at ei
    cases ei
    rw [List.append_nil] at er
    subst er
    exact .inl ⟨⟨_, SqL.of hai, by rw [List.length_map]; omega⟩, k D Hi (fun b o h => (pi.keep b o h (noOwn_no hn)).1) hD hDi⟩
/-- a turn on data -/
def turnL (p q v : Nat) (gk : Md D) (gc g0 : Md Bool) (g2 gx : Md D) (es : List Gp) (ρ1 : Env) : Option (List Gp × Env) :=
  (gk ρ1).bind fun k => (setC p (.val k.1) k.2).bind fun ρ3 => (selB v gc es (wipeE ρ3 [v])).bind fun bs => (setC q (.val (.list (selG es bs.1))) ρ3).bind fun ρ4 => (g0 ρ4).bind fun b =>
    if noOwn ρ3 = true ∧ es.length < 16777216 ∧ lenB es bs.1 < 16777216 ∧ b.1 = (selG es bs.1).isEmpty then
      if b.1 = true then (g2 (ρ3.set q none)).bind fun k2 => (gx k2.2).bind fun x => some (es ++ [(k2.1, [x.1])], x.2)
      else (gx (ρ3.set q none)).bind fun x => some (putG es bs.1 x.1, x.2)
    else none
def tRestL (X : Cx) (i q : Nat) (g0 : Md Bool) (g2 gx : Md D) : TS := tSeq (tIfS (tDT (cxK X) g0)
    (tSeq (tDrop (tBM (cxK X) "list" rAppend (tVar i) (tCons (tLst (tCons (tD (cxK X) g2) (tCons (tLst (tCons (tD (cxK X) gx) tNil)) tNil))) tNil))) tNext)
    (tSeq (tDrop (tBM (cxK X) "list" rAppend (tOp (rIxL X.K) (tOp (rIxL X.K) (tVar q) (tC (.int 0))) (tC (.int 1))) (tCons (tD (cxK X) gx) tNil))) tNext)) tNext
def tTurnL (X : Cx) (i p q v : Nat) (gk : Md D) (gc g0 : Md Bool) (g2 gx : Md D) : TS :=
  tSeq (tAsg (tD (cxK X) gk) (gName p)) (tSeq (tAsg (tLc (iSeq (cxK X) (tVar i)) (gName v) (tDT (cxK X) gc) (tVar v) [v]) (gName q)) (tRestL X i q g0 g2 gx))
theorem turnL_ok {i p q v : Nat} {gk : Md D} {gc g0 : Md Bool} {g2 gx : Md D} (hip : p ≠ i) (hiq : q ≠ i) (hiv : i ≠ v) {E : Ends} {F H : Hp} {σ : L2.St} {ρ1 : Env} {a : Addr} {gs : List (Addr × Addr)} {es es' : List Gp} {ρ' : Env} {Fs : Hp} {σs : L2.St} {ρs : Env} {Hs : Hp}
    (s : St (cxK X) F H σ ρ1) (g : Gm (cxK X) F H σ ρ1 Hs i a gs es) (pp : Stp Fs σs ρs Hs F σ ρ1 H) (oa : Owns σs ρs a)
    (eg : turnL p q v gk gc g0 g2 gx es ρ1 = some (es', ρ'))
    (k : ∀ F' σ' H' gs', Same F F' → Stp Fs σs ρs Hs F' σ' ρ' H' → St (cxK X) F' H' σ' ρ' → Gm (cxK X) F' H' σ' ρ' Hs i a gs' es' → E.nx σ' H') : tTurnL X i p q v gk gc g0 g2 gx E σ H := by
  obtain ⟨kk, e1, eg⟩ := bind_some eg
  obtain ⟨ρ3, e2, eg⟩ := bind_some eg
  obtain ⟨⟨bs, ρe⟩, e3, eg⟩ := bind_some eg
  obtain ⟨ρ4, e4, eg⟩ := bind_some eg
  obtain ⟨bb, e5, eg⟩ := bind_some eg
  split at eg
  · rename_i hcd
    obtain ⟨hn, hel, hlb, hbe⟩ := hcd
    refine ⟨F, ρ1, kk.1, kk.2, s, e1, fun kv F1 H1 p1 s1 r1 => ?_⟩
    have p1' := stp_set (v := kv) p1 e2 (fun _ _ _ z => nomatch z)
    have s1' := st_set (v := kv) s1 e2 ⟨kv, rfl, r1⟩ fun _ _ _ z => nomatch z
    have si : (σ.set p (some kv))[i]? = σ[i]? := get_set_ne (Ne.symm hip)
    have g1 := g.step p1' si
    have pp1 := pp.trans p1'
    show tLc (iSeq (cxK X) (tVar i)) (gName v) (tDT (cxK X) gc) (tVar v) [v] (σ.set p (some kv)) H1 (fun x H' => tRestL X i q g0 g2 gx E ((σ.set p (some kv)).set q (some x)) H')
    generalize σ.set p (some kv) = σ1 at p1' s1' si g1 pp1 ⊢
    refine sel_q hiv s1' g1 hn e3 (by omega) fun D H2 k2 hD hD2 => ?_
    show tRestL X i q g0 g2 gx E (σ1.set q (some (V.ref D))) H2
    -- all stands for good while the word is asked
    have fr1 : ∀ b ∈ adrs gs, F1 b = none := fun b hb => (g1.rg.free b hb).1
    have g2m := g1.on (ρ' := ρ3) k2 rfl hn
    have hDA : D ∉ adrs gs := fun z => by
      obtain ⟨_, vs, hv⟩ := g1.rg.free D z
      rw [hD] at hv
      cases hv
    have fD1 : F1 D = none := none_sub s1'.sub hD
    have s12 : Same F1 H2 := fun b o h => k2 b o (s1'.sub b o h)
    have fx : Same F1 (ext F1 H2 (adrs gs)) := ext_same fr1
    have fxD : ext F1 H2 (adrs gs) D = none := (ext_out hDA).trans fD1
    have fy : Same (ext F1 H2 (adrs gs)) (upd (ext F1 H2 (adrs gs)) D (.lst (selA gs bs))) := same_new fxD
    have fyH : Same (upd (ext F1 H2 (adrs gs)) D (.lst (selA gs bs))) H2 := sub_upd (ext_sub s12) hD2
    have rsel := rp_sel bs (g2m.rg.rpAll (A := adrs gs) fr1 fun _ h => h)
    have sy := st_all_vals s1' hn (fx.trans fy) fyH
    have s4 := st_set (v := V.ref D) sy e4 ⟨_, rfl, .lst (SqL.of upd_same) (dpAll_mono fy _ _ rsel)⟩ fun _ _ _ z => nomatch z
    have hρ4 : ρ4 = ρ3.set q (some (.val (.list (selG es bs)))) := (setC_some e4).1
    have hn4 : noOwn ρ4 = true := by
      rw [hρ4]
      exact noOwn_set hn fun _ _ z => nomatch z
    have hql : q < σ1.length := by
      obtain ⟨_, _, o, ho⟩ := setC_some e4
      have := (List.getElem?_eq_some_iff.mp ho).1
      rw [s1'.len] at this
      exact this
    have hsq : (σ1.set q (some (V.ref D)))[q]? = some (some (V.ref D)) := List.getElem?_set_self hql
    have hsi : (σ1.set q (some (V.ref D)))[i]? = σ1[i]? := get_set_ne (Ne.symm hiq)
    refine ⟨_, ρ4, bb.1, bb.2, s4, e5, fun F3 H3 p3 s3 => ?_⟩
    have k3 : ∀ c o, H2 c = some o → H3 c = some o := fun c o h => (p3.keep c o h (noOwn_no hn4)).1
    have k13 : ∀ c o, H1 c = some o → H3 c = some o := fun c o h => k3 c o (k2 c o h)
    have hnq : noOwn (ρ3.set q none) = true := noOwn_set hn fun _ _ z => nomatch z
    have s5 : St (cxK X) F1 H3 (σ1.set q (some (V.ref D))) (ρ3.set q none) := by
      have b1 := st_all_vals s1' hn (Same.refl _) (fun b o h => k13 b o (s1'.sub b o h))
      refine ⟨b1.sub, by rw [List.length_set, List.length_set]; exact b1.len, fun j c hj => ?_, fun j l f f2 d e b h1 => absurd h1 (noOwn_at hnq)⟩
      by_cases z : j = q
      · subst z
        rw [List.getElem?_set_self (by rw [s1'.len]; exact hql)] at hj
        cases hj
      · rw [get_set_ne z] at hj ⊢
        exact b1.cell j c hj
    have pp5 : Stp Fs σs ρs Hs F1 (σ1.set q (some (V.ref D))) (ρ3.set q none) H3 := stp_all_vals pp1 hn hnq k13
    have g5 : Gm (cxK X) F1 H3 (σ1.set q (some (V.ref D))) (ρ3.set q none) Hs i a gs es := g1.on k13 hsi hnq
    have hD3 := k3 D _ hD2
    have ff1 := p1'.ff
    generalize σ1.set q (some (V.ref D)) = σ2 at hsq hsi s5 pp5 g5 ⊢
    cases hb : bb.1 with
    | true =>
      rw [hb] at eg hbe
      rw [if_pos rfl] at eg
      show (if true = true then _ else _)
      rw [if_pos rfl]
      obtain ⟨k2', e6, eg⟩ := bind_some eg
      obtain ⟨xx, e7, eg⟩ := bind_some eg
      cases eg
      refine ⟨.ref a, g5.slot, .inl ⟨rfl, _, SqL.of g5.ha⟩, F1, ρ3.set q none, k2'.1, k2'.2, s5, e6, fun kw F4 H4 p4 s4' r4 => ⟨F4, k2'.2, xx.1, xx.2, s4', e7, fun xw F5 H5 p5 s5' r5 => ?_⟩⟩
      refine ⟨by rw [line_eq]; simp, fun r hr => ⟨by rw [line_eq]; simp, fun gg hg => ?_⟩⟩
      have p45 := p4.trans p5
      have g6 := g5.step p45 rfl
      have pp6 := pp5.trans p45
      have nrg : gg ≠ r := fun z => by
        rw [z, upd_same] at hg
        cases hg
      have hg5 : H5 gg = none := by rw [upd_ne nrg] at hg; exact hg
      have ar : a ≠ r := fun z => by
        have := g6.ha
        rw [z, hr] at this
        cases this
      have ag : a ≠ gg := fun z => by
        have := g6.ha
        rw [z, hg5] at this
        cases this
      have nr : r ∉ adrs gs := fun z => by
        obtain ⟨_, vs, hv⟩ := g6.rg.free r z
        rw [hr] at hv
        cases hv
      have ng : gg ∉ adrs gs := fun z => by
        obtain ⟨_, vs, hv⟩ := g6.rg.free gg z
        rw [hg5] at hv
        cases hv
      refine ⟨a, _, .ref gg, rfl, rfl, by rw [upd_ne ag, upd_ne ar]; exact g6.ha, by rw [line_eq, List.length_map, g6.rg.len]; exact hel, ?_⟩
      have f5r := none_sub s5'.sub hr
      have f5g := none_sub s5'.sub hg5
      have nor := not_owns s5' hr
      have nog := not_owns s5' hg5
      have t1 := st_side (o := .lst [xw]) s5' f5r nor
      have t2 := st_side (o := .lst [kw, V.ref r]) t1 f5g nog
      have t3 := st_side (o := .lst ((gs.map fun g => V.ref g.1) ++ [V.ref gg])) t2 g6.fa g6.no
      have hsr := pp6.none hr
      have hsg := pp6.none hg5
      have w1 := stp_poke (o := .lst [xw]) pp6 (.inl hsr)
      have w2 := stp_poke (o := .lst [kw, V.ref r]) w1 (.inl hsg)
      have w3 := stp_poke (o := .lst ((gs.map fun g => V.ref g.1) ++ [V.ref gg])) w2 (.inr oa)
      have kpA : ∀ b ∈ adrs gs, upd (upd (upd H5 r (.lst [xw])) gg (.lst [kw, V.ref r])) a (.lst ((gs.map fun g => V.ref g.1) ++ [V.ref gg])) b = H5 b := fun b hb => by
        rw [upd_ne (fun z : b = a => g6.na (z ▸ hb)), upd_ne (fun z : b = gg => ng (z ▸ hb)), upd_ne (fun z : b = r => nr (z ▸ hb))]
      refine k F5 σ2 _ (gs ++ [(gg, r)]) (ff1.trans p45.ff) w3 t3 ⟨g6.slot, g6.fa, by rw [upd_same, List.map_append]; rfl, ?_, fun z => ?_, fun b hb => ?_, g6.no⟩
      · refine RpL.snoc f5g f5r (by rw [upd_ne (Ne.symm ag), upd_same]) (by rw [upd_ne (Ne.symm ar), upd_ne (Ne.symm nrg), upd_same]) (dp_mono p5.ff _ _ r4) (.cons r5 .nil) nrg (g6.rg.mono (Same.refl _) fun b hb => ⟨rfl, kpA b hb⟩) ng nr
      · rcases adrs_app z with z | z | z
        · exact g6.na z
        · exact ag z
        · exact ar z
      · rcases adrs_app hb with h | rfl | rfl
        · exact g6.own b h
        · exact ⟨nog, hsg⟩
        · exact ⟨nor, hsr⟩
    | false =>
      rw [hb] at eg hbe
      rw [if_neg Bool.false_ne_true] at eg
      show (if false = true then _ else _)
      rw [if_neg Bool.false_ne_true]
      obtain ⟨xx, e7, eg⟩ := bind_some eg
      cases eg
      have hne : selG es bs ≠ [] := fun z => by
        rw [z] at hbe
        cases hbe
      obtain ⟨gg, r, kv0, vs, rest, mr, z1, z2, z3, z4, z5⟩ := g5.rg.put bs hne
      refine ⟨.ref D, hsq, ⟨D, selA gs bs, 0, .ref gg, rfl, rfl, SqL.of hD3, atI_nat (j := 0) (by rw [z1]; rfl), gg, [kv0, V.ref r], 1, .ref r, rfl, rfl, SqL.of z2, atI_nat (j := 1) rfl, .inl ⟨rfl, vs, SqL.of z3⟩, F1, ρ3.set q none, xx.1, xx.2, s5, e7, fun xw F4 H4 p4 s4' r4 => ?_⟩⟩
      have g6 := g5.step p4 rfl
      have pp6 := pp5.trans p4
      obtain ⟨gg', r', kv0', vs', rest', mr', z1', z2', z3', z4', z5'⟩ := g6.rg.put bs hne
      have er : gg' = gg := by
        rw [z1] at z1'
        injection z1' with z1' _
        injection z1' with z1'
        exact z1'.symm
      subst er
      have z2k := (p4.keep gg' _ z2 (noOwn_no hnq)).1
      rw [z2'] at z2k
      injection z2k with z2k
      injection z2k with z2k
      injection z2k with _ z2k
      injection z2k with z2k _
      injection z2k with z2k
      subst z2k
      refine ⟨r', vs', xw, rfl, rfl, z3', by rw [line_eq, z4']; exact hlb, ?_⟩
      obtain ⟨f4, _⟩ := g6.rg.free r' mr'
      have hno := (g6.own r' mr').1
      have har : a ≠ r' := fun z => g6.na (z ▸ mr')
      refine k F4 σ2 _ gs (ff1.trans p4.ff) (stp_poke pp6 (.inl (g6.own r' mr').2)) (st_side s4' f4 hno) ⟨g6.slot, g6.fa, by rw [upd_ne har]; exact g6.ha, z5' xw _ r4, g6.na, g6.own, g6.no⟩
  · cases eg
/-- the loop on data -/
def grpLD (gt : D → Env → Option Env) (p q v : Nat) (gk : Md D) (gc g0 : Md Bool) (g2 gx : Md D) : List D → List Gp → Env → Option (List Gp × Env)
  | [], es, ρ => some (es, ρ)
  | d :: ds, es, ρ => (gt d ρ).bind fun ρ1 => (turnL p q v gk gc g0 g2 gx es ρ1).bind fun r => grpLD gt p q v gk gc g0 g2 gx ds r.1 r.2
def emptyOwnL : Option (Option Cell) → Bool
  | some (some (.own false (.list []))) => true
  | _ => false
theorem emptyOwnL_some {o : Option (Option Cell)} (h : emptyOwnL o = true) : o = some (some (.own false (.list []))) := by
  unfold emptyOwnL at h
  split at h
  · rfl
  · cases h
def sGrpL (i : Nat) (gi : Md (List D)) (gt : D → Env → Option Env) (p q v : Nat) (gk : Md D) (gc g0 : Md Bool) (g2 gx : Md D) : Sd := fun ρ => (gi ρ).bind fun w => if emptyOwnL w.2[i]? = true then
    (grpLD gt p q v gk gc g0 g2 gx w.1 [] (w.2.set i none)).bind fun r => (setC i (.val (.list (r.1.map gpD))) r.2).bind fun ρ' => some (.nx, ρ') else none
theorem ds_grpL (i p q v : Nat) {tg iter : Expr} {gi : Md (List D)} {gt : D → Env → Option Env} {is : List Nat} {gk : Md D} {gc g0 : Md Bool} {g2 gx : Md D} {body : List Stmt} (hc : X.calm = true) (hp : PassesOwn (model X.prog X.w) X.A X.env X.xe) (hi : DI X tg iter gi) (hg : DG X tg is gt) (hb : PSs X body (tTurnL X i p q v gk gc g0 g2 gx)) (hip : p ≠ i) (hiq : q ≠ i) (hiv : i ≠ v) (his : i ∉ is) (hs : ∀ x, foldedSetIterable iter X.env x = pure x := by intro _; rfl) : DS X (.For tg iter body [] pos) (sGrpL i gi gt p q v gk gc g0 g2 gx) :=
  ps_imp (ps_for hp hc hi hg hb hs) fun E σ H w => by
    obtain ⟨F, ρ, f, ρ', s, eg, k⟩ := w
    obtain ⟨⟨ds, ρ1⟩, e1, eg1⟩ := bind_some eg
    simp only at eg1
    split at eg1
    · rename_i hemp
      have hown := emptyOwnL_some hemp
      obtain ⟨⟨esf, ρf⟩, e2, eg2⟩ := bind_some eg1
      obtain ⟨ρe, e3, eg3⟩ := bind_some eg2
      cases eg3
      refine ⟨F, ρ, ds, ρ1, s, e1, fun J F1 H1 p1 s1 ok => ?_⟩
      obtain ⟨a, ea, o0, _⟩ := st_owned s1 hown
      obtain ⟨fa, xs0, hx0, rx0⟩ := own_lst o0
      cases rx0
      have oa : Owns σ ρ1 a := ⟨i, false, _, hown, ea⟩
      have hil : i < ρ1.length := (List.getElem?_eq_some_iff.mp hown).1
      have sub : ∀ (j : Nat) (c : Cell), (ρ1.set i none)[j]? = some (some c) → j ≠ i ∧ ρ1[j]? = some (some c) := fun j c hj => by
        by_cases z : j = i
        · subst z
          rw [List.getElem?_set_self hil] at hj
          cases hj
        · rw [get_set_ne z] at hj
          exact ⟨z, hj⟩
      have s1f : St (cxK X) F1 H1 σ (ρ1.set i none) := ⟨s1.sub, by rw [List.length_set]; exact s1.len, fun j c hj => s1.cell j c (sub j c hj).2, fun j l f g d e b h1 h2 h3 h4 => s1.dist j l f g d e b (sub j _ h1).2 (sub l _ h2).2 h3 h4⟩
      have noa : ¬ Owns σ (ρ1.set i none) a := fun ⟨j, f, d, h1, h2⟩ => (sub j _ h1).1 (s1.dist j i f false d _ a (sub j _ h1).2 hown h2 ea)
      have p0 : Stp F1 σ ρ1 H1 F1 σ (ρ1.set i none) H1 := ⟨Same.refl _, fun _ _ h _ => ⟨h, rfl⟩, fun b ⟨j, f, d, h1, h2⟩ => .inl ⟨j, f, d, (sub j _ h1).2, h2⟩, fun j d h => by
        have z : j ≠ i := fun z => by
          subst z
          rw [hown] at h
          cases h
        exact ⟨rfl, d, by rw [get_set_ne z]; exact h⟩, fun _ o h => ⟨o, h⟩⟩
      have g0' : Gm (cxK X) F1 H1 σ (ρ1.set i none) H1 i a [] [] := ⟨ea, fa, hx0, .nil, by simp [adrs], by simp [adrs], noa⟩
      refine ⟨fun j m σi Hi => ∃ Fi ρi es gs, m = ds.length - j ∧ j ≤ ds.length ∧ Stp F1 σ ρ1 H1 Fi σi ρi Hi ∧ St (cxK X) Fi Hi σi ρi ∧ Same F1 Fi ∧ Gm (cxK X) Fi Hi σi ρi H1 i a gs es ∧ grpLD gt p q v gk gc g0 g2 gx (ds.drop j) es ρi = some (esf, ρf), ⟨ds.length, F1, _, [], [], by simp, Nat.zero_le _, p0, s1f, Same.refl _, g0', by simpa using e2⟩, ?_⟩
      rintro j m σi Hi ⟨Fi, ρi, es, gs, rfl, hj, pi, si, sf, gi, ei⟩
      by_cases hlt : j < ds.length
      · have hd : ds[j]? = some ds[j] := List.getElem?_eq_getElem hlt
        obtain ⟨ok1, _⟩ := ok Fi Hi sf si.sub j
        obtain ⟨go, yl⟩ := ok1 _ hd
        rw [drop_cons hd] at ei
        obtain ⟨ρ2, c1, ei⟩ := bind_some ei
        obtain ⟨⟨es', ρ3⟩, c2, ei⟩ := bind_some ei
        refine .inr ⟨go, fun σ' H' => ∃ F' ρ'' es' gs', Stp F1 σ ρ1 H1 F' σ' ρ'' H' ∧ St (cxK X) F' H' σ' ρ'' ∧ Same F1 F' ∧ Gm (cxK X) F' H' σ' ρ'' H1 i a gs' es' ∧ grpLD gt p q v gk gc g0 g2 gx (ds.drop (j + 1)) es' ρ'' = some (esf, ρf), fun σ' H' ⟨F', ρ'', es', gs', h1, h2, h3, h4, h5⟩ => ⟨ds.length - (j + 1), by omega, F', ρ'', es', gs', rfl, hlt, h1, h2, h3, h4, h5⟩, fun u H' hy => ?_⟩
        obtain ⟨F', gr, rv⟩ := yl u H' hy
        have pg := gr.stp σi ρi
        have gg := gi.step pg rfl
        refine ⟨F', ρi, _, ρ2, si.grow gr, rv, c1, fun σ2 F2 H2 p2 s2 hk2 => ?_⟩
        have gg2 := gg.step p2 (hk2.2 i his)
        have pp2 := (pi.trans pg).trans p2
        exact turnL_ok hip hiq hiv s2 gg2 pp2 oa c2 fun F3 σ3 H3 gs3 f3 pp3 s3 g3 => ⟨F3, ρ3, es', gs3, pp3, s3, (sf.trans (gr.ff.trans p2.ff)).trans f3, g3, ei⟩
      · have hj2 : j = ds.length := by omega
        subst hj2
        rw [List.drop_length] at ei
        cases ei
        obtain ⟨_, ok2⟩ := ok Fi Hi sf si.sub ds.length
        refine .inl ⟨ok2 (Nat.le_refl _), ?_⟩
        have fl : ∀ b ∈ adrs gs, Fi b = none ∧ ¬ Owns σi ρf b := fun b hb => ⟨(gi.rg.free b hb).1, (gi.own b hb).1⟩
        have se := st_ext si fl
        have fe := ext_same (H := Hi) (las := adrs gs) fun b hb => (fl b hb).1
        have fea : ext Fi Hi (adrs gs) a = none := (ext_out gi.na).trans gi.fa
        have sz := st_frz se fea gi.ha gi.no
        have fz : Same (ext Fi Hi (adrs gs)) (upd (ext Fi Hi (adrs gs)) a (.lst (gs.map fun g => V.ref g.1))) := same_new fea
        have rz : RpAll (cxK X) (upd (ext Fi Hi (adrs gs)) a (.lst (gs.map fun g => V.ref g.1))) (gs.map fun g => V.ref g.1) (esf.map gpD) := dpAll_mono fz _ _ (gi.rg.rpAll (A := adrs gs) (fun b hb => (fl b hb).1) fun _ h => h)
        have pz := stp_ice pi (fe.trans fz) fun b hb => by
          by_cases za : b = a
          · subst za
            exact .inr oa
          · rw [upd_ne za] at hb
            by_cases zl : b ∈ adrs gs
            · exact .inl (gi.own b zl).2
            · exact absurd (ext_out zl) hb
        have sσ : σi.set i (some (.ref a)) = σi := by
          have hl : i < σi.length := (List.getElem?_eq_some_iff.mp gi.slot).1
          apply List.ext_getElem?
          intro l
          by_cases z : l = i
          · subst z
            rw [List.getElem?_set_self hl, gi.slot]
          · rw [List.getElem?_set_ne (Ne.symm z)]
        have st2 := st_set (v := .ref a) sz e3 ⟨.ref a, rfl, .lst (SqL.of upd_same) rz⟩ fun _ _ _ z => nomatch z
        have pt2 := stp_set (v := .ref a) pz e3 fun _ _ _ z => nomatch z
        rw [sσ] at st2 pt2
        exact k σi _ Hi (p1.trans pt2) st2
    · cases eg1
/-- a, b = a list -/
def gTLst (n : Nat) (gs : List D → Env → Option Env) : D → Env → Option Env
  | .list ds, ρ => if ds.length = n then gs ds ρ else none
  | _, _ => none
theorem dg_lst {es : List Expr} {k : Nat} {is : List Nat} {gs : List D → Env → Option Env} {n : Nat} (hc : X.calm = true) (h : DGs X es is gs) (hn : (assignEach es X.env).length = n := by rfl) (hst : (assignEach es X.env).findIdx? (·.1) = none := by rfl) : DG X (.Tuple es k pos) is (gTLst n gs) :=
  pg_imp (pg_lst hc h hn hst) fun v σ H Q q => by
    obtain ⟨F, ρ, d, ρ', s, hd, eg, kk⟩ := q
    cases d with
    | list ds =>
      have eg' : (if ds.length = n then gs ds ρ else none) = some ρ' := eg
      split at eg'
      · rename_i hl
        cases hd with
        | @lst a vs _ h1 d1 => exact ⟨a, vs, rfl, s.sub.seq h1, by rw [da_len d1]; exact hl, F, ρ, ds, ρ', s, d1, eg', kk⟩
      · cases eg'
    | none => cases eg
    | bool _ => cases eg
    | int _ => cases eg
    | str _ => cases eg
    | tuple _ => cases eg
    | dict _ => cases eg
end
end Dn
set_option maxHeartbeats 1000000
/-! a generator that sleeps is left alone by code that can run while it can't be woken -/
namespace Gz
open PySem
open Sem (wp)

def onlyRet : List Frame → Bool
  | [] => true
  | .ret .. :: fs => onlyRet fs
  | .gen .. :: _ => false
theorem onlyRet_append : ∀ {as bs : List Frame}, onlyRet as = true → onlyRet bs = true → onlyRet (as ++ bs) = true
  | [], _, _, h => h
  | .ret .. :: as, bs, h, h' => onlyRet_append (as := as) h h'
  | .gen .. :: _, _, h, _ => by cases h
theorem split_none : ∀ {fs : List Frame}, onlyRet fs = true → splitAtGen fs = none
  | [], _ => rfl
  | .ret .. :: fs, h => by
    show (splitAtGen fs).map _ = none
    rw [split_none (fs := fs) h]
    rfl
  | .gen .. :: _, h => by cases h
def flatF (F : Frame) : Frame := .ret (fun _ => .unsupported "") none false [] F.where_.1 F.where_.2 []
theorem flat_where (F : Frame) : (flatF F).where_ = F.where_ := rfl
theorem flat_map : ∀ fs : List Frame, (fs.map flatF).map Frame.where_ = fs.map Frame.where_
  | [] => rfl
  | F :: fs => by
    rw [List.map_cons, List.map_cons, List.map_cons, flat_map fs, flat_where]
theorem flat_only : ∀ fs : List Frame, onlyRet (fs.map flatF) = true
  | [] => rfl
  | F :: fs => flat_only fs
/-- as it is, but it can't be woken -/
def dead : GenState → GenState
  | .suspended _ l c p fs cl => .suspended (fun _ => .unsupported "") l c p (fs.map flatF) cl
  | x => x
def susp : GenState → Bool
  | .suspended .. => true
  | _ => false
theorem dead_seen (x : GenState) : (dead x).seen = x.seen := by
  cases x with
  | suspended k l c p fs cl =>
    show (GenStatus.suspended, some ((c, p) :: (fs.map flatF).map Frame.where_)) = (GenStatus.suspended, some ((c, p) :: fs.map Frame.where_))
    rw [flat_map]
  | _ => rfl
theorem dead_bare (x : GenState) : (dead x).bare = x.bare := by cases x <;> rfl
/-- the one table and the other: those that z names sleep in the one so that they can't be woken -/
def Rel (z : Nat → Option GenState) (a b : Array GenState) : Prop := a.size = b.size ∧ ∀ i : Nat, match z i with
  | some x => a[i]? = some (dead x) ∧ b[i]? = some x ∧ susp x = true
  | none => a[i]? = b[i]?
def TabOk (a : Array GenState) : Prop := ∀ (i : Nat) k l c p fs cl, a[i]? = some (.suspended k l c p fs cl) → onlyRet fs = true
def endOk : End → Bool
  | .ret _ => true
  | .susp _ _ _ _ _ _ fs => onlyRet fs
def genOk : GenState → Bool
  | .suspended _ _ _ _ fs _ => onlyRet fs
  | _ => true
theorem endOk_gen {e : End} (h : endOk e = true) : genOk e.genState = true := by
  cases e with
  | ret r => rfl
  | susp v g l k c p fs => exact h
theorem Rel.none_at {z : Nat → Option GenState} {a b : Array GenState} (h : Rel z a b) {i : Nat} (hz : z i = none) : a[i]? = b[i]? := by
  have := h.2 i
  rw [hz] at this
  exact this
theorem Rel.some_at {z : Nat → Option GenState} {a b : Array GenState} (h : Rel z a b) {i : Nat} {x : GenState} (hz : z i = some x) : a[i]? = some (dead x) ∧ b[i]? = some x ∧ susp x = true := by
  have := h.2 i
  rw [hz] at this
  exact this
theorem Rel.set {z : Nat → Option GenState} {a b : Array GenState} (h : Rel z a b) {g : Nat} (hz : z g = none) (y : GenState) : Rel z (a.setIfInBounds g y) (b.setIfInBounds g y) := by
  refine ⟨by simp [h.1], fun i => ?_⟩
  by_cases hi : g = i
  · subst hi
    rw [hz]
    show (a.setIfInBounds g y)[g]? = (b.setIfInBounds g y)[g]?
    rw [Array.getElem?_setIfInBounds, Array.getElem?_setIfInBounds, h.1, if_pos rfl, if_pos rfl]
  · have e1 : (a.setIfInBounds g y)[i]? = a[i]? := Array.getElem?_setIfInBounds_ne hi
    have e2 : (b.setIfInBounds g y)[i]? = b[i]? := Array.getElem?_setIfInBounds_ne hi
    rw [e1, e2]
    exact h.2 i
theorem TabOk.set {a : Array GenState} (h : TabOk a) {g : Nat} {y : GenState} (hy : genOk y = true) : TabOk (a.setIfInBounds g y) := by
  intro i k l c p fs cl e
  by_cases hi : g = i
  · subst hi
    rw [Array.getElem?_setIfInBounds] at e
    rw [if_pos rfl] at e
    split at e
    · cases e
      exact hy
    · cases e
  · rw [Array.getElem?_setIfInBounds_ne hi] at e
    exact h i k l c p fs cl e
theorem Rel.push {z : Nat → Option GenState} {a b : Array GenState} (h : Rel z a b) (y : GenState) : Rel z (a.push y) (b.push y) := by
  refine ⟨by simp [h.1], fun i => ?_⟩
  have e1 : ∀ c : Array GenState, (c.push y)[i]? = if i = c.size then some y else c[i]? := fun c => Array.getElem?_push
  have q := h.2 i
  cases hz : z i with
  | none =>
    rw [hz] at q
    show (a.push y)[i]? = (b.push y)[i]?
    rw [e1, e1, h.1, q]
  | some x =>
    rw [hz] at q
    show (a.push y)[i]? = some (dead x) ∧ (b.push y)[i]? = some x ∧ susp x = true
    obtain ⟨q1, q2, q3⟩ := q
    have hl : i < b.size := by
      rw [Array.getElem?_eq_some_iff] at q2
      exact q2.1
    have hs := h.1
    rw [e1, e1, if_neg (by omega), if_neg (by omega)]
    exact ⟨q1, q2, q3⟩
theorem TabOk.push {a : Array GenState} (h : TabOk a) {y : GenState} (hy : genOk y = true) : TabOk (a.push y) := by
  intro i k l c p fs cl e
  rw [Array.getElem?_push] at e
  split at e
  · cases e
    exact hy
  · exact h i k l c p fs cl e
theorem no_unsup {M : Model} {Γ : Ctx} {p : Pos} {t : Sem PySem.Fin} {fs : List Frame} {s s' : Shared} {e : End} (h : Runs M Γ p t fs s e s') : ∀ w, t ≠ .unsupported w := by
  induction h with
  | segRet _ _ ih _ => exact ih
  | segGen _ _ ih _ => exact ih
  | segSuspOut _ _ ih => exact ih
  | segSuspGen _ _ _ _ ih _ => exact ih
  | _ => exact fun w e => nomatch e
abbrev wG (s : Shared) (b : Array GenState) : Shared := { s with gens := b }
theorem sim {M : Model} {Γ : Ctx} {p : Pos} {t : Sem PySem.Fin} {fs : List Frame} {s s' : Shared} {e : End} (h : Runs M Γ p t fs s e s') : ∀ (z : Nat → Option GenState) (b : Array GenState), Rel z s.gens b → TabOk s.gens → onlyRet fs = true →
    ∃ b', Runs M Γ p t fs (wG s b) e (wG s' b') ∧ Rel z s'.gens b' ∧ TabOk s'.gens ∧ endOk e = true := by
  induction h with
  | done => exact fun z b r o f => ⟨b, .done, r, o, rfl⟩
  | raise => exact fun z b r o f => ⟨b, .raise, r, o, rfl⟩
  | again q _ ih =>
    intro z b r o f
    obtain ⟨b', h1, h2⟩ := ih z b r o f
    exact ⟨b', .again q h1, h2⟩
  | rule _ ih =>
    intro z b r o f
    obtain ⟨b', h1, h2⟩ := ih z b r o f
    exact ⟨b', .rule h1, h2⟩
  | «at» _ ih =>
    intro z b r o f
    obtain ⟨b', h1, h2⟩ := ih z b r o f
    exact ⟨b', .at h1, h2⟩
  | load q _ ih =>
    intro z b r o f
    obtain ⟨b', h1, h2⟩ := ih z b r o f
    exact ⟨b', .load q h1, h2⟩
  | update q _ ih =>
    intro z b r o f
    obtain ⟨b', h1, h2⟩ := ih z b r o f
    exact ⟨b', .update q h1, h2⟩
  | loadIfAlive _ ih =>
    intro z b r o f
    obtain ⟨b', h1, h2⟩ := ih z b r o f
    exact ⟨b', .loadIfAlive h1, h2⟩
  | point _ ih =>
    intro z b r o f
    obtain ⟨b', h1, h2⟩ := ih z b r o f
    exact ⟨b', .point h1, h2⟩
  | alloc _ ih =>
    intro z b r o f
    obtain ⟨b', h1, h2⟩ := ih z b r o f
    exact ⟨b', .alloc h1, h2⟩
  | fresh _ ih =>
    intro z b r o f
    obtain ⟨b', h1, h2⟩ := ih z b r o f
    exact ⟨b', .fresh h1, h2⟩
  | ask _ ih =>
    intro z b r o f
    obtain ⟨b', h1, h2⟩ := ih z b r o f
    exact ⟨b', .ask h1, h2⟩
  | choose q _ ih =>
    intro z b r o f
    obtain ⟨b', h1, h2⟩ := ih z b r o f
    exact ⟨b', .choose q h1, h2⟩
  | os _ ih =>
    intro z b r o f
    obtain ⟨b', h1, h2⟩ := ih z b r o f
    exact ⟨b', .os h1, h2⟩
  | handled _ ih =>
    intro z b r o f
    obtain ⟨b', h1, h2⟩ := ih z b r o f
    exact ⟨b', .handled h1, h2⟩
  | @genState g st Γ p k s e s' q _ ih =>
    intro z b r o f
    obtain ⟨b', h1, h2⟩ := ih z b r o f
    cases hz : z g with
    | none => exact ⟨b', .genState (st := st) ((r.none_at hz).symm.trans q) h1, h2⟩
    | some x =>
      obtain ⟨q1, q2, q3⟩ := r.some_at hz
      rw [q] at q1
      cases q1
      refine ⟨b', .genState (st := x) q2 ?_, h2⟩
      rw [dead_seen] at h1
      exact h1
  | stack _ ih =>
    intro z b r o f
    obtain ⟨b', h1, h2⟩ := ih z b r o f
    exact ⟨b', .stack h1, h2⟩
  | thread _ ih =>
    intro z b r o f
    obtain ⟨b', h1, h2⟩ := ih z b r o f
    exact ⟨b', .thread h1, h2⟩
  | newGen _ ih =>
    intro z b r o f
    obtain ⟨b', h1, h2⟩ := ih z (b.push _) (r.push _) (o.push rfl) f
    refine ⟨b', .newGen ?_, h2⟩
    rw [r.1] at h1
    exact h1
  | call _ _ ih1 ih2 =>
    intro z b r o f
    obtain ⟨b1, h1, r1, o1, _⟩ := ih1 z b r o f
    obtain ⟨b', h2, h3⟩ := ih2 z b1 r1 o1 f
    exact ⟨b', .call h1 h2, h3⟩
  | callSusp _ ih =>
    intro z b r o f
    obtain ⟨b', h1, r1, o1, e1⟩ := ih z b r o f
    exact ⟨b', .callSusp h1, r1, o1, onlyRet_append e1 rfl⟩
  | yield => exact fun z b r o f => ⟨b, .yield, r, o, rfl⟩
  | @resumeFresh Γ p g l k s c e₁ s₁ e s' q _ qt _ ih1 ih2 =>
    intro z b r o f
    have hz : z g = none := by
      cases hz : z g with
      | none => rfl
      | some x =>
        obtain ⟨q1, q2, q3⟩ := r.some_at hz
        rw [q] at q1
        cases x <;> first | (cases q3; done) | (cases q1; done) | (simp [dead] at q1; done)
    obtain ⟨b1, h1, r1, o1, e1⟩ := ih1 z (b.setIfInBounds g .running) (r.set hz _) (o.set rfl) rfl
    obtain ⟨b', h2, h3⟩ := ih2 z (b1.setIfInBounds g e₁.genState) (r1.set hz _) (o1.set (endOk_gen e1)) f
    exact ⟨b', .resumeFresh ((r.none_at hz).symm.trans q) h1 qt h2, h3⟩
  | @resumeSuspended Γ p g r' l k s k₀ l₀ c₀ p₀ fs cl e₁ s₁ e s' q hr qt _ ih1 ih2 =>
    intro z b r o f
    have hz : z g = none := by
      cases hz : z g with
      | none => rfl
      | some x =>
        obtain ⟨q1, q2, q3⟩ := r.some_at hz
        rw [q] at q1
        cases x with
        | suspended k l c p fs cl =>
          cases q1
          exact absurd rfl (no_unsup hr "")
        | _ => cases q3
    obtain ⟨b1, h1, r1, o1, e1⟩ := ih1 z (b.setIfInBounds g .running) (r.set hz _) (o.set rfl) (o g _ _ _ _ _ _ q)
    obtain ⟨b', h2, h3⟩ := ih2 z (b1.setIfInBounds g e₁.genState) (r1.set hz _) (o1.set (endOk_gen e1)) f
    exact ⟨b', .resumeSuspended ((r.none_at hz).symm.trans q) h1 qt h2, h3⟩
  | @resumeJustStarted g v Γ p k s e s' l c q ne _ ih =>
    intro z b r o f
    have hz : z g = none := by
      cases hz : z g with
      | none => rfl
      | some x =>
        obtain ⟨q1, q2, q3⟩ := r.some_at hz
        rw [q] at q1
        cases x <;> first | (cases q3; done) | (cases q1; done) | (simp [dead] at q1; done)
    obtain ⟨b', h1, h2⟩ := ih z b r o f
    exact ⟨b', .resumeJustStarted ((r.none_at hz).symm.trans q) ne h1, h2⟩
  | @resumeThrowFresh g Γ p k e s' x l s c q _ ih =>
    intro z b r o f
    have hz : z g = none := by
      cases hz : z g with
      | none => rfl
      | some x =>
        obtain ⟨q1, q2, q3⟩ := r.some_at hz
        rw [q] at q1
        cases x <;> first | (cases q3; done) | (cases q1; done) | (simp [dead] at q1; done)
    obtain ⟨b', h1, h2⟩ := ih z (b.setIfInBounds g .finished) (r.set hz _) (o.set rfl) f
    exact ⟨b', .resumeThrowFresh ((r.none_at hz).symm.trans q) h1, h2⟩
  | @resumeRunning g Γ p k s e s' r' l q _ ih =>
    intro z b r o f
    have hz : z g = none := by
      cases hz : z g with
      | none => rfl
      | some x =>
        obtain ⟨q1, q2, q3⟩ := r.some_at hz
        rw [q] at q1
        cases x <;> first | (cases q3; done) | (cases q1; done) | (simp [dead] at q1; done)
    obtain ⟨b', h1, h2⟩ := ih z b r o f
    exact ⟨b', .resumeRunning ((r.none_at hz).symm.trans q) h1, h2⟩
  | @resumeFinished g Γ p k s e s' r' l q _ ih =>
    intro z b r o f
    have hz : z g = none := by
      cases hz : z g with
      | none => rfl
      | some x =>
        obtain ⟨q1, q2, q3⟩ := r.some_at hz
        rw [q] at q1
        cases x <;> first | (cases q3; done) | (cases q1; done) | (simp [dead] at q1; done)
    obtain ⟨b', h1, h2⟩ := ih z b r o f
    exact ⟨b', .resumeFinished ((r.none_at hz).symm.trans q) h1, h2⟩
  | segRet _ _ ih1 ih2 =>
    intro z b r o f
    obtain ⟨b1, h1, r1, o1, _⟩ := ih1 z b r o rfl
    obtain ⟨b', h2, h3⟩ := ih2 z b1 r1 o1 f
    exact ⟨b', .segRet h1 h2, h3⟩
  | segGen _ _ ih1 ih2 =>
    intro z b r o f
    cases f
  | segSuspOut q _ ih =>
    intro z b r o f
    obtain ⟨b', h1, r1, o1, e1⟩ := ih z b r o rfl
    exact ⟨b', .segSuspOut q h1, r1, o1, onlyRet_append e1 f⟩
  | segSuspGen q _ _ _ _ _ =>
    intro z b r o f
    rw [split_none f] at q
    cases q

/-- what is told of a state whose table is another one -/
def QG {α : Type} (z : Nat → Option GenState) (Q : α → Pos → Shared → Prop) : α → Pos → Shared → Prop := fun a p s => ∃ g, Q a p (wG s g) ∧ Rel z g s.gens
theorem wp_sim {α : Type} (M : Model) (Γ : Ctx) (z : Nat → Option GenState) (t : Sem α) : ∀ (Q : α → Pos → Shared → Prop) (E : Value → Pos → Shared → Prop) (p : Pos) (s : Shared) (b : Array GenState), Rel z s.gens b → TabOk s.gens → wp M Γ t Q E p s → wp M Γ t (QG z Q) (QG z E) p (wG s b) := by
  induction t with
  | pure a => intro Q E p s b r o h; exact ⟨s.gens, h, r⟩
  | raise e => intro Q E p s b r o h; exact ⟨s.gens, h, r⟩
  | unsupported _ => intro Q E p s b r o h; exact h
  | finish _ => intro Q E p s b r o h; exact h
  | rule _ k ih => intro Q E p s b r o h; exact ih () Q E p s b r o h
  | «at» p' k ih => intro Q E p s b r o h; exact ih () Q E p' s b r o h
  | load a _ k ih => intro Q E p s b r o h; obtain ⟨ob, ho, h⟩ := h; exact ⟨ob, ho, ih ob Q E p s b r o h⟩
  | update a _ f k ih => intro Q E p s b r o h; exact ⟨h.1, ih () Q E p { s with heap := s.heap.update a f } b r o h.2⟩
  | loadIfAlive a k ih => intro Q E p s b r o h; exact ih _ Q E p s b r o h
  | point _ k ih => intro Q E p s b r o h; exact ih () Q E p s b r o h
  | register _ _ => intro Q E p s b r o h; exact h
  | alloc ob k ih => intro Q E p s b r o h; exact ih _ Q E p { s with heap := s.heap.push ob } b r o h
  | fresh k ih => intro Q E p s b r o h; exact ih _ Q E p { s with toks := s.toks + 1 } b r o h
  | ask k ih => intro Q E p s b r o h; exact ih _ Q E p s b r o h
  | choose src m k ih => intro Q E p s b r o h; exact ⟨h.1, ih _ Q E p { s with drawn := s.drawn.bump src } b r o h.2⟩
  | os q _ k ih => intro Q E p s b r o h; exact ih _ Q E p { s with os := (Os.step s.os q).1 } b r o h
  | call c hd _ _ k ih =>
    intro Q E p s b r o h
    obtain ⟨rs, s', hr, h⟩ := h
    obtain ⟨b', h1, r1, o1, _⟩ := sim hr z b r o rfl
    exact ⟨rs, wG s' b', h1, ih rs Q E p s' b' r1 o1 h⟩
  | handled own k ih => intro Q E p s b r o h; exact ih _ Q E p s b r o h
  | genState g k ih =>
    intro Q E p s b r o h
    obtain ⟨st, hs, h⟩ := h
    cases hz : z g with
    | none => exact ⟨st, (r.none_at hz).symm.trans hs, ih _ Q E p s b r o h⟩
    | some x =>
      obtain ⟨q1, q2, q3⟩ := r.some_at hz
      rw [hs] at q1
      cases q1
      rw [dead_seen] at h
      exact ⟨x, q2, ih _ Q E p s b r o h⟩
  | newGen c k ih =>
    intro Q E p s b r o h
    have q := ih _ Q E p { s with gens := s.gens.push (.fresh c) } (b.push (.fresh c)) (r.push _) (o.push rfl) h
    rw [r.1] at q
    exact q
  | resume g rs _ k ih =>
    intro Q E p s b r o h
    obtain ⟨res, s', hw, h⟩ := h
    have key : ∃ b', Wakes M Γ p g rs (wG s b) res (wG s' b') ∧ Rel z s'.gens b' ∧ TabOk s'.gens := by
      unfold Wakes at hw ⊢
      cases hz : z g with
      | some x =>
        obtain ⟨q1, q2, q3⟩ := r.some_at hz
        rw [q1] at hw
        cases x with
        | suspended k l c p fs cl =>
          obtain ⟨e₁, s₁, hr, _⟩ := hw
          exact absurd rfl (no_unsup hr "")
        | _ => cases q3
      | none =>
        have e := (r.none_at hz).symm
        rw [show (wG s b).gens[g]? = s.gens[g]? from e]
        cases hg : s.gens[g]? with
        | none => rw [hg] at hw; exact hw.elim
        | some st =>
          rw [hg] at hw
          cases st with
          | fresh c =>
            cases rs with
            | send v =>
              cases v with
              | none =>
                obtain ⟨e₁, s₁, hr, hq, rfl, rfl⟩ := hw
                obtain ⟨b1, h1, r1, o1, e1⟩ := sim hr z (b.setIfInBounds g .running) (r.set hz _) (o.set rfl) rfl
                exact ⟨b1.setIfInBounds g e₁.genState, ⟨e₁, wG s₁ b1, h1, hq, rfl, rfl⟩, r1.set hz _, o1.set (endOk_gen e1)⟩
              | _ =>
                obtain ⟨rfl, rfl⟩ := hw
                exact ⟨b, ⟨rfl, rfl⟩, r, o⟩
            | throw x =>
              obtain ⟨rfl, rfl⟩ := hw
              exact ⟨b.setIfInBounds g .finished, ⟨rfl, rfl⟩, r.set hz _, o.set rfl⟩
          | suspended k₀ l₀ c₀ p₀ fs cl =>
            obtain ⟨e₁, s₁, hr, hq, rfl, rfl⟩ := hw
            obtain ⟨b1, h1, r1, o1, e1⟩ := sim hr z (b.setIfInBounds g .running) (r.set hz _) (o.set rfl) (o g _ _ _ _ _ _ hg)
            exact ⟨b1.setIfInBounds g e₁.genState, ⟨e₁, wG s₁ b1, h1, hq, rfl, rfl⟩, r1.set hz _, o1.set (endOk_gen e1)⟩
          | running =>
            obtain ⟨rfl, rfl⟩ := hw
            exact ⟨b, ⟨rfl, rfl⟩, r, o⟩
          | finished =>
            obtain ⟨rfl, rfl⟩ := hw
            exact ⟨b, ⟨rfl, rfl⟩, r, o⟩
    obtain ⟨b', h1, r1, o1⟩ := key
    exact ⟨res, wG s' b', h1, ih res Q E p s' b' r1 o1 h⟩
  | yield _ _ _ _ => intro Q E p s b r o h; exact h
  | stack k ih => intro Q E p s b r o h; exact ih _ Q E p s b r o h
  | fork _ _ => intro Q E p s b r o h; exact h
  | thread k ih => intro Q E p s b r o h; exact ih _ Q E p s b r o h
  | await _ _ _ _ _ => intro Q E p s b r o h; exact h

/-- those that sleep -/
def slp (a : Array GenState) (i : Nat) : Option GenState := match a[i]? with
  | some x => if susp x = true then some x else none
  | none => none
theorem rel_dead (a : Array GenState) : Rel (slp a) (a.map dead) a := by
  refine ⟨by simp, fun i => ?_⟩
  unfold slp
  cases h : a[i]? with
  | none =>
    show (a.map dead)[i]? = none
    rw [Array.getElem?_map, h]
    rfl
  | some x =>
    show (match (if susp x = true then some x else none) with | some x => _ | none => _)
    by_cases hs : susp x = true
    · rw [if_pos hs]
      exact ⟨by rw [Array.getElem?_map, h]; rfl, rfl, hs⟩
    · rw [if_neg hs]
      show (a.map dead)[i]? = some x
      rw [Array.getElem?_map, h]
      cases x <;> first | rfl | exact absurd rfl hs
theorem tab_dead (a : Array GenState) : TabOk (a.map dead) := by
  intro i k l c p fs cl e
  rw [Array.getElem?_map] at e
  cases h : a[i]? with
  | none => rw [h] at e; cases e
  | some x =>
    rw [h] at e
    cases x with
    | suspended k0 l0 c0 p0 fs0 cl0 =>
      have e' : some (dead (.suspended k0 l0 c0 p0 fs0 cl0)) = some (.suspended k l c p fs cl) := e
      injection e' with e'
      injection e' with _ _ _ _ e5 _
      rw [← e5]
      exact flat_only _
    | _ => cases e
/-- what slept sleeps on -/
def Kept (a b : Array GenState) : Prop := ∀ (i : Nat) (x : GenState), a[i]? = some x → susp x = true → b[i]? = some x
theorem Kept.refl (a : Array GenState) : Kept a a := fun _ _ h _ => h
theorem Kept.trans {a b c : Array GenState} (h : Kept a b) (h' : Kept b c) : Kept a c := fun i x e s => h' i x (h i x e s) s
theorem kept_rel {a g b : Array GenState} (r : Rel (slp a) g b) : Kept a b := fun i x e s => by
  have hz : slp a i = some x := by
    unfold slp
    rw [e]
    exact if_pos s
  exact (r.some_at hz).2.1
/-- THE RULE: code that can run while the sleepers can't be woken leaves them -/
theorem wpAny_kept {α : Type} {M : Model} {A : Around} {t : Sem α} {Q Q' : α → Shared → Prop} {E E' : Value → Shared → Prop} {s : Shared} (h : wpAny M A t Q E (wG s (s.gens.map dead)))
    (hQ : ∀ a s' g, Q a (wG s' g) → Rel (slp s.gens) g s'.gens → Kept s.gens s'.gens → Q' a s') (hE : ∀ e s' g, E e (wG s' g) → Rel (slp s.gens) g s'.gens → Kept s.gens s'.gens → E' e s') : wpAny M A t Q' E' s := fun Γ p hΓ => by
  have q := wp_sim M Γ (slp s.gens) t (fun a _ s' => Q a s') (fun e _ s' => E e s') p (wG s (s.gens.map dead)) s.gens (rel_dead _) (tab_dead _) (h Γ p hΓ)
  exact Sem.wp_mono M Γ t (fun a _ s' ⟨g, h1, h2⟩ => hQ a s' g h1 h2 (kept_rel h2)) (fun e _ s' ⟨g, h1, h2⟩ => hE e s' g h1 h2 (kept_rel h2)) p s q
open PySem.Spec PyProof.Rows in
theorem bare_rel {a g b : Array GenState} (h : AllBare a) (hg : AllBare g) (r : Rel (slp a) g b) : AllBare b := fun y hy => by
  obtain ⟨i, hi⟩ := Array.mem_iff_getElem?.mp hy
  cases hz : slp a i with
  | none =>
    have e := (r.none_at hz).trans hi
    exact hg y (Array.mem_of_getElem? e)
  | some x =>
    obtain ⟨q1, q2, q3⟩ := r.some_at hz
    rw [hi] at q2
    cases q2
    have e := hg _ (Array.mem_of_getElem? q1)
    rw [dead_bare] at e
    exact e
open PySem.Spec PyProof.Rows in
theorem bare_dead {a : Array GenState} (h : AllBare a) : AllBare (a.map dead) := fun y hy => by
  obtain ⟨x, hx, rfl⟩ := Array.mem_map.mp hy
  rw [dead_bare]
  exact h x hx
end Gz
set_option maxHeartbeats 1000000
/-! a generator's body, over data -/
namespace Gz
open PySem PySem.Spec PyProof.Rows L2 Dn GenW

/-! ### the context, based anew at each waking -/
def cutH (n : Nat) (h : Heap) : Heap := { h with objs := h.objs.take n }
theorem cut_get {n : Nat} {h : Heap} {b : Addr} : (cutH n h).get? b = if b < n then h.get? b else none := by
  unfold cutH Heap.get?
  show (match (h.objs.take n)[b]? with | some ⟨_, _, .freed, _⟩ => none | o => o) = _
  by_cases hb : b < n
  · rw [if_pos hb]
    have e : (h.objs.take n)[b]? = h.objs[b]? := by
      show (h.objs.extract 0 n)[b]? = _
      rw [Array.getElem?_extract]
      split
      · rw [Nat.zero_add]
      · rename_i hn
        exact (Array.getElem?_eq_none (Nat.le_of_not_lt fun hl => hn (by rw [Nat.sub_zero]; exact Nat.lt_min.mpr ⟨hb, hl⟩))).symm
    rw [e]
    rfl
  · rw [if_neg hb]
    have e : (h.objs.take n)[b]? = none := by
      show (h.objs.extract 0 n)[b]? = _
      exact Array.getElem?_eq_none (by rw [Array.size_extract]; exact Nat.le_trans (Nat.sub_le _ _) (Nat.le_trans (Nat.min_le_left _ _) (Nat.le_of_not_lt hb)))
    rw [e]
theorem cut_some {n : Nat} {h : Heap} {b : Addr} {o : Obj} (e : (cutH n h).get? b = some o) : b < n ∧ h.get? b = some o := by
  rw [cut_get] at e
  split at e
  · rename_i hb
    exact ⟨hb, e⟩
  · cases e
theorem cut_size {n : Nat} {h : Heap} : (cutH n h).objs.size ≤ n := by
  show (h.objs.take n).size ≤ n
  simp
  omega
theorem fun_cut {n : Nat} {h h' base : Heap} : ∀ {l : List PySem.Env}, (cutH n h).FunFrames base l → h'.FunFrames base l → (cutH n h').FunFrames base l
  | [], _, _ => trivial
  | env :: l, h1, h2 => by
    obtain ⟨k1, ⟨L, o, f1, n1, g1, _⟩, r1⟩ := h1
    obtain ⟨_, ⟨L', o', f2, _, g2, d2⟩, r2⟩ := h2
    rw [f1] at f2
    cases f2
    exact ⟨k1, ⟨L, o', f1, n1, by rw [cut_get, if_pos (cut_some g1).1]; exact g2, d2⟩, fun_cut r1 r2⟩
abbrev rb (X : Cx) (s : Shared) (H : Hp) (n : Nat) : Cx := { X with s_0 := { s with heap := cutH n s.heap }, H_0 := H }

/-- what a generator has at a waking: F2, H2 are its consumer's; ip: things of its consumer's -/
structure Wake (X : Cx) (fp : List Addr) (ip : List (Addr × Obj)) (F : Hp) (s : Shared) (F2 H2 : Hp) (s' : Shared) : Prop where
  ff : Same F F2
  sub : Same F2 H2
  keep : ∀ b ∈ fp, ∀ o, s.heap.get? b = some o → s'.heap.get? b = some o
  out : ∀ b ∈ fp, H2 b = none
  bs : ∀ b o, X.base.get? b = some o → s'.heap.get? b = some o ∧ H2 b = none
  funs : s'.heap.FunFrames X.base X.outer
  frf : ∀ b ∈ X.fs, H2 b = none
  hok : HOk X.prog X.w H2 s'.heap
  bare : AllBare s'.gens
  pins : ∀ p ∈ ip, s'.heap.get? p.1 = some p.2 ∧ H2 p.1 = none ∧ p.1 ∉ fp ∧ p.1 ∉ X.fs ∧ ∀ v, p.2.data ≠ .cell v
/-- it has no cells; its own object is at a -/
structure Plain (X : Cx) (n : Nat) (a : Addr) (g : Nat) (go : Obj) : Prop where
  cells : ∀ x, X.env.cells.lookup x = none
  ex : X.ex = []
  pn : X.pn = [(a, go)]
  nL : n ≤ X.env.locals
  bz : ∀ b o, X.base.get? b = some o → b < n
  gen : ∀ h : Heap, h.get? a = some go → h.IsGen a g
section
variable {X : Cx} {n : Nat} {a : Addr} {g : Nat} {go : Obj} {ip ipw : List (Addr × Obj)} {σ : L2.St} {F Fw Hw H H2 F2 : Hp} {s₀ s s' : Shared} {ρ : Dn.Env}
theorem Inv.wake (pl : Plain X n a g go) (I : Inv (rb X s₀ Hw n) ipw σ H s) (hbz : X.base.objs.size ≤ (cutH n s'.heap).objs.size) (W : Wake X [X.env.locals, a] ip F s F2 H2 s') : Inv (rb X s' H2 n) ip σ H2 s' := by
  obtain ⟨ok, os, bare, base, loc, cell, free, freeC, pin, hok, len⟩ := I
  have nc : ∀ {x c}, X.env.cells.lookup x = some c → False := fun {x c} h => by rw [pl.cells] at h; cases h
  have hA := pin (a, go) (by rw [show (rb X s₀ Hw n).pn = [(a, go)] from pl.pn]; exact List.mem_append_left _ List.mem_cons_self)
  refine ⟨⟨ok.mod, ok.kind, ok.glob, ok.blt, Nat.le_trans cut_size pl.nL, ok.inj, ok.has, fun x c _ h => (nc h).elim, ok.hd, ok.frames, ok.stk, ok.exf, fun b o e => ⟨by rw [cut_get, if_pos (pl.bz b o e)]; exact (W.bs b o e).1, (W.bs b o e).2⟩, hbz, ok.noex, ok.exfs, fun_cut ok.funs W.funs, W.frf⟩,
    rfl, W.bare, ⟨fun b o e _ _ _ => (cut_some e).2, fun b o e _ _ _ => ⟨o.slots, (cut_some e).2⟩, fun b o e h _ => h, fun b o e _ => ⟨o, (cut_some e).2⟩, fun _ _ e => e, fun _ _ _ e => e, fun b ps e => ⟨#[], by rw [show H2 b = some (.tbl ps) from e]; simp⟩⟩,
    ?_, fun x c h => (nc h).elim, W.out _ (by simp), fun x c h => (nc h).elim, fun p hp => ?_, W.hok, len⟩
  · obtain ⟨m, hn, hm⟩ := loc
    refine ⟨m, hn.at' fun o e => W.keep _ (by simp) o e, fun i x v h1 h2 h3 => ?_⟩
    obtain ⟨u, r, q⟩ := hm i x v h1 h2 h3
    refine ⟨u, r, ?_⟩
    rcases q with q | ⟨_, c, q, _⟩
    · exact .inl q
    · exact (nc q).elim
  · rcases List.mem_append.mp hp with z | z
    · rw [show (rb X s' H2 n).pn = [(a, go)] from pl.pn] at z
      rw [List.mem_singleton.mp z]
      exact ⟨W.keep _ (by simp) _ hA.1, W.out _ (by simp), hA.2.2.1, hA.2.2.2.1, hA.2.2.2.2⟩
    · obtain ⟨h1, h2, h3, h4, h5⟩ := W.pins p z
      exact ⟨h1, h2, fun e => h3 (by rw [e]; simp), h4, h5⟩
/-- no list of one's own in it -/
def noOwn (ρ : Dn.Env) : Bool := ρ.all fun o => match o with
  | some (.own _ _) => false
  | _ => true
theorem noOwn_at {ρ : Dn.Env} (h : noOwn ρ = true) {i : Nat} {f : Bool} {d : D} : ρ[i]? ≠ some (some (.own f d)) := fun e => by
  have := List.all_eq_true.mp h _ (List.mem_of_getElem? e)
  cases this
theorem noOwn_owns {σ : L2.St} {ρ : Dn.Env} (h : noOwn ρ = true) {b : Addr} : ¬ Owns σ ρ b := fun ⟨_, _, _, e, _⟩ => noOwn_at h e
theorem st_wake {K : Kx} {σ : L2.St} (st : Dn.St K F H σ ρ) (no : noOwn ρ = true) (ff : Same F F2) (sub : Same F2 H2) : Dn.St K F2 H2 σ ρ where
  sub := sub
  len := st.len
  cell := fun i c e => by
    have q := st.cell i c e
    cases c with
    | val d =>
      obtain ⟨v, e1, r⟩ := q
      exact ⟨v, e1, dp_mono ff _ _ r⟩
    | own f d => exact absurd e (noOwn_at no)
  dist := st.dist

/-- what its consumer gets: from the waking's F, H, state to these -/
structure Yd (X : Cx) (n : Nat) (a : Addr) (g : Nat) (Fw Hw : Hp) (ipw : List (Addr × Obj)) (s₀ : Shared) (F H : Hp) (s : Shared) : Prop where
  gr : Grow Fw Hw F H
  un : Un X.fs [] Hw H (cutH n s₀.heap) s.heap
  hok : HOk X.prog X.w H s.heap
  os : s.os = s₀.os
  bare : AllBare s.gens
  pin : ∀ p ∈ ipw, s.heap.get? p.1 = some p.2 ∧ H p.1 = none
  out : ∀ b ∈ [X.env.locals, a], H b = none ∧ ∃ o, s.heap.get? b = some o ∧ ∀ v, o.data ≠ .cell v
  gen : s.heap.IsGen a g
theorem yd_of {σw : L2.St} {ρw : Dn.Env} (pl : Plain X n a g go) (I : Inv (rb X s₀ Hw n) ipw σ H s) (st : Dn.St (cxK X) F H σ ρ) (no : noOwn ρw = true) (p : Stp Fw σw ρw Hw F σ ρ H) : Yd X n a g Fw Hw ipw s₀ F H s := by
  have hA := I.pin (a, go) (by rw [show (rb X s₀ Hw n).pn = [(a, go)] from pl.pn]; exact List.mem_append_left _ List.mem_cons_self)
  refine ⟨⟨p.ff, fun b o h => (p.keep b o h (noOwn_owns no)).1, st.sub, fun b o h => (p.keep b o h (noOwn_owns no)).2⟩, ?_, I.hok, I.os, I.bare, fun q hq => ?_, fun b hb => ?_, pl.gen _ hA.1⟩
  · have u := I.base
    rw [show (rb X s₀ Hw n).ex = [] from pl.ex] at u
    exact u
  · obtain ⟨h1, h2, _⟩ := I.pin q (List.mem_append_right _ hq)
    exact ⟨h1, h2⟩
  · rcases List.mem_cons.mp hb with rfl | hb
    · obtain ⟨m, ⟨o, es, ep, e1, e2, _⟩, _⟩ := I.loc
      exact ⟨I.free, o, e1, fun v q => by rw [e2] at q; cases q⟩
    · rw [List.mem_singleton.mp hb]
      exact ⟨hA.2.1, go, hA.1, hA.2.2.2.2⟩
end

/-! ### the protocol -/
abbrev Wt := Nat → Hp → Hp → List (Addr × Obj) → Shared → Prop
def YG (X : Cx) (n : Nat) (a : Addr) (g : Nat) (W : Wt) (ds : List D) : Protocol := fun m s₀ v s kap =>
  ∃ i Fw Hw ipw F H x d, i + 1 + m = ds.length ∧ W i Fw Hw ipw s₀ ∧ ds[i]? = some d ∧ RelV x v ∧ Rp (cxK X) F x d ∧ Yd X n a g Fw Hw ipw s₀ F H s ∧
    ∀ s' F2 H2 ip, W (i + 1) F2 H2 ip s' → Wake X [X.env.locals, a] ip F s F2 H2 s' → kap (.send .none) s' ∧ kap (.send (.bool true)) s'
/-- all is handed out -/
def RF (X : Cx) (n : Nat) (a : Addr) (g : Nat) (W : Wt) (ds : List D) (m : Nat) (s₀ s : Shared) : Prop := m = 0 ∧ ∃ Fw Hw ipw F H, W ds.length Fw Hw ipw s₀ ∧ Yd X n a g Fw Hw ipw s₀ F H s
def RG (X : Cx) (n : Nat) (a : Addr) (g : Nat) (W : Wt) (ds : List D) : GenEnd := fun m s₀ r s => ((r = .ok (.ret .none) ∨ r = .ok .next) ∧ RF X n a g W ds m s₀ s) ∨ ∃ e, r = .error e ∧ False

/-! ### what a generator's statements denote: what they hand out, how they end -/
abbrev Gd := Dn.Env → Option (List D × Fl × Dn.Env)
def flowOf : Fl → Option Flow
  | .nx => some .next
  | .brk => some .brk
  | .cnt => some .cont
  | _ => none
structure At (X : Cx) (n : Nat) (W : Wt) (i : Nat) (s₀ : Shared) (Fw Hw : Hp) (ipw : List (Addr × Obj)) (s : Shared) (F H : Hp) (σ : L2.St) (ρ : Dn.Env) : Prop where
  w : W i Fw Hw ipw s₀
  bz : X.base.objs.size ≤ (cutH n s₀.heap).objs.size
  inv : Inv (rb X s₀ Hw n) ipw σ H s
  st : Dn.St (cxK X) F H σ ρ
  stp : ∃ σw ρw, noOwn ρw = true ∧ Stp Fw σw ρw Hw F σ ρ H
structure GC (X : Cx) (A : Around) (c : Code) (fs : List Frame) (gd : Bool → Bool) : Prop where
  over : A.over c fs = X.A
  split : splitAtGen fs = none
  guard : fs.any Frame.guarded = false
  gd : gd false = false
def GK (X : Cx) (n : Nat) (a : Addr) (g : Nat) (W : Wt) (ds : List D) (A : Around) (i : Nat) (ρ : Dn.Env) (c : Code) (t : Sem PySem.Fin) (fs : List Frame) : Prop :=
  ∀ m s₀ s Fw Hw ipw F H σ, At X n W i s₀ Fw Hw ipw s F H σ ρ → i + m = ds.length → Seg (model X.prog X.w) A (RG X n a g W ds) (YG X n a g W ds) m s₀ c t fs s
/-- the table of a generator may be cut so at each waking -/
def WtOk (X : Cx) (n : Nat) (W : Wt) : Prop := ∀ i F H ip s, W i F H ip s → X.base.objs.size ≤ (cutH n s.heap).objs.size
structure GS (X : Cx) (n : Nat) (st : Stmt) (gd : Gd) : Prop where
  run : ∀ (a : Addr) (g : Nat) (go : Obj) (W : Wt) (ds : List D) (A : Around) (m : Nat) (s₀ : Shared) (c : Code) (fs : List Frame) (K : Flow → Sem PySem.Fin) (J : Value → Sem PySem.Fin) (gf : Bool → Bool) (lv : List Value → List Value) (s : Shared) (i : Nat) (Fw Hw : Hp) (ipw : List (Addr × Obj)) (F H : Hp) (σ : L2.St) (ρ ρ' : Dn.Env) (ys : List D) (fl : Fl) (f : Flow),
    Plain X n a g go → WtOk X n W → GC X A c fs gf → At X n W i s₀ Fw Hw ipw s F H σ ρ → i + m = ds.length → gd ρ = some (ys, fl, ρ') → flowOf fl = some f → (∃ rest, ds.drop i = ys ++ rest) →
    GK X n a g W ds A (i + ys.length) ρ' c (K f) fs → Seg (model X.prog X.w) A (RG X n a g W ds) (YG X n a g W ds) m s₀ c ((exec st X.env).wrap K J gf lv) fs s
structure GSs (X : Cx) (n : Nat) (st : List Stmt) (gd : Gd) : Prop where
  run : ∀ (a : Addr) (g : Nat) (go : Obj) (W : Wt) (ds : List D) (A : Around) (m : Nat) (s₀ : Shared) (c : Code) (fs : List Frame) (K : Flow → Sem PySem.Fin) (J : Value → Sem PySem.Fin) (gf : Bool → Bool) (lv : List Value → List Value) (s : Shared) (i : Nat) (Fw Hw : Hp) (ipw : List (Addr × Obj)) (F H : Hp) (σ : L2.St) (ρ ρ' : Dn.Env) (ys : List D) (fl : Fl) (f : Flow),
    Plain X n a g go → WtOk X n W → GC X A c fs gf → At X n W i s₀ Fw Hw ipw s F H σ ρ → i + m = ds.length → gd ρ = some (ys, fl, ρ') → flowOf fl = some f → (∃ rest, ds.drop i = ys ++ rest) →
    GK X n a g W ds A (i + ys.length) ρ' c (K f) fs → Seg (model X.prog X.w) A (RG X n a g W ds) (YG X n a g W ds) m s₀ c ((execs st X.env).wrap K J gf lv) fs s

def gP (s : Sd) : Gd := fun ρ => (s ρ).bind fun p => some ([], p.1, p.2)
def gEnd : Gd := fun ρ => some ([], .nx, ρ)
def gThen (s t : Gd) : Gd := fun ρ => (s ρ).bind fun p => match p.2.1 with
  | .nx => (t p.2.2).bind fun q => some (p.1 ++ q.1, q.2)
  | _ => some p
def gYield (e : Md D) : Gd := fun ρ => (e ρ).bind fun p => if noOwn p.2 = true then some ([p.1], .nx, p.2) else none
section
variable {X : Cx} {n : Nat} {st : Stmt} {rest : List Stmt}
theorem plain_q {F H : Hp} {σ : L2.St} {ρ ρ' : Dn.Env} {fl : Fl} {g : Sd} (s : Dn.St (cxK X) F H σ ρ) (e : g ρ = some (fl, ρ')) (h : ∃ f, flowOf fl = some f) :
    tDS (cxK X) g { nx := fun σ' H' => fl = .nx ∧ ∃ F', Stp F σ ρ H F' σ' ρ' H' ∧ Dn.St (cxK X) F' H' σ' ρ', rt := fun _ _ => False, bk := fun σ' H' => fl = .brk ∧ ∃ F', Stp F σ ρ H F' σ' ρ' H' ∧ Dn.St (cxK X) F' H' σ' ρ', ct := fun σ' H' => fl = .cnt ∧ ∃ F', Stp F σ ρ H F' σ' ρ' H' ∧ Dn.St (cxK X) F' H' σ' ρ' } σ H := by
  refine ⟨F, ρ, fl, ρ', s, e, fun σ' F' H' p s' => ?_⟩
  obtain ⟨f, hf⟩ := h
  cases fl with
  | nx => exact ⟨rfl, F', p, s'⟩
  | brk => exact ⟨rfl, F', p, s'⟩
  | cnt => exact ⟨rfl, F', p, s'⟩
  | ret d => cases hf
  | rof d => cases hf
theorem gk_of {a : Addr} {g : Nat} {W : Wt} {ds : List D} {A : Around} {m : Nat} {s₀ : Shared} {c : Code} {fs : List Frame} {K : Flow → Sem PySem.Fin} {s s' : Shared} {i : Nat} {Fw Hw : Hp} {ipw : List (Addr × Obj)} {F H : Hp} {σ : L2.St} {ρ ρ' : Dn.Env} {fl : Fl} {f f' : Flow}
    (hx : X.xe = fun _ _ => False) (at_ : At X n W i s₀ Fw Hw ipw s F H σ ρ) (hm : i + m = ds.length) (hf : flowOf fl = some f) (k : GK X n a g W ds A (i + 0) ρ' c (K f) fs)
    (q : SP (rb X s₀ Hw n) ipw { nx := fun σ' H' => fl = .nx ∧ ∃ F', Stp F σ ρ H F' σ' ρ' H' ∧ Dn.St (cxK X) F' H' σ' ρ', rt := fun _ _ => False, bk := fun σ' H' => fl = .brk ∧ ∃ F', Stp F σ ρ H F' σ' ρ' H' ∧ Dn.St (cxK X) F' H' σ' ρ', ct := fun σ' H' => fl = .cnt ∧ ∃ F', Stp F σ ρ H F' σ' ρ' H' ∧ Dn.St (cxK X) F' H' σ' ρ' } f' s') :
    Seg (model X.prog X.w) A (RG X n a g W ds) (YG X n a g W ds) m s₀ c (K f') fs s' := by
  obtain ⟨σw, ρw, no, p⟩ := at_.stp
  cases f' with
  | next =>
    obtain ⟨σ', H', I, rfl, F', p', s2⟩ := q
    cases hf
    exact k m s₀ s' Fw Hw ipw F' H' σ' ⟨at_.w, at_.bz, I, s2, σw, ρw, no, p.trans p'⟩ hm
  | brk =>
    obtain ⟨σ', H', I, rfl, F', p', s2⟩ := q
    cases hf
    exact k m s₀ s' Fw Hw ipw F' H' σ' ⟨at_.w, at_.bz, I, s2, σw, ρw, no, p.trans p'⟩ hm
  | cont =>
    obtain ⟨σ', H', I, rfl, F', p', s2⟩ := q
    cases hf
    exact k m s₀ s' Fw Hw ipw F' H' σ' ⟨at_.w, at_.bz, I, s2, σw, ρw, no, p.trans p'⟩ hm
  | ret u =>
    obtain ⟨_, _, _, _, _, q⟩ := q
    exact q.elim
theorem gs_plain (hx : X.xe = fun _ _ => False) {g : Sd} (h : ∀ s H, DS (rb X s H n) st g) : GS X n st (gP g) := by
  refine ⟨fun a gn go W ds A m s₀ c fs K J gf lv s i Fw Hw ipw F H σ ρ ρ' ys fl f pl wk gc at_ hm e hf hd k => ?_⟩
  obtain ⟨⟨f1, ρ1⟩, e1, e2⟩ := bind_some e
  cases e2
  refine seg_wrap ?_
  rw [gc.over]
  refine wpAny_mono ((h s₀ Hw).run ipw s σ H _ at_.inv (plain_q at_.st e1 ⟨f, hf⟩)) (fun f' s' q => gk_of hx at_ hm hf k q) fun x s' q => ?_
  rw [show (rb X s₀ Hw n).xe = fun _ _ => False from hx] at q
  exact q.elim
theorem gss_plain (hx : X.xe = fun _ _ => False) {g : Sd} (h : ∀ s H, DSs (rb X s H n) rest g) : GSs X n rest (gP g) := by
  refine ⟨fun a gn go W ds A m s₀ c fs K J gf lv s i Fw Hw ipw F H σ ρ ρ' ys fl f pl wk gc at_ hm e hf hd k => ?_⟩
  obtain ⟨⟨f1, ρ1⟩, e1, e2⟩ := bind_some e
  cases e2
  refine seg_wrap ?_
  rw [gc.over]
  refine wpAny_mono ((h s₀ Hw).run ipw s σ H _ at_.inv (plain_q at_.st e1 ⟨f, hf⟩)) (fun f' s' q => gk_of hx at_ hm hf k q) fun x s' q => ?_
  rw [show (rb X s₀ Hw n).xe = fun _ _ => False from hx] at q
  exact q.elim
theorem gss_nil : GSs X n [] gEnd := by
  refine ⟨fun a gn go W ds A m s₀ c fs K J gf lv s i Fw Hw ipw F H σ ρ ρ' ys fl f pl wk gc at_ hm e hf hd k => ?_⟩
  cases e
  cases hf
  exact seg_execs_nil (k m s₀ s Fw Hw ipw F H σ at_ hm)
theorem drop_app {ds ys rest : List D} {i : Nat} (h : ds.drop i = ys ++ rest) : ds.drop (i + ys.length) = rest := by
  rw [← List.drop_drop, h, List.drop_left]
theorem gss_cons {s t : Gd} (h1 : GS X n st s) (h2 : GSs X n rest t) : GSs X n (st :: rest) (gThen s t) := by
  refine ⟨fun a gn go W ds A m s₀ c fs K J gf lv sh i Fw Hw ipw F H σ ρ ρ' ys fl f pl wk gc at_ hm e hf hd k => ?_⟩
  obtain ⟨⟨ys1, f1, ρ1⟩, e1, e2⟩ := bind_some e
  refine seg_execs_cons ?_
  cases f1 with
  | nx =>
    obtain ⟨⟨ys2, f2, ρ2⟩, e3, e4⟩ := bind_some e2
    cases e4
    obtain ⟨r, hr⟩ := hd
    refine h1.run a gn go W ds A m s₀ c fs _ J gf lv sh i Fw Hw ipw F H σ ρ ρ1 ys1 .nx .next pl wk gc at_ hm e1 rfl ⟨ys2 ++ r, by rw [hr, List.append_assoc]⟩ fun m' s₀' s' Fw' Hw' ipw' F' H' σ' at' hm' => ?_
    rw [List.append_assoc] at hr
    refine h2.run a gn go W ds A m' s₀' c fs K J gf lv s' (i + ys1.length) Fw' Hw' ipw' F' H' σ' ρ1 ρ' ys2 fl f pl wk gc at' hm' e3 hf ⟨r, drop_app hr⟩ fun m2 s2 s3 Fw2 Hw2 ip2 F2 H2 σ2 at2 hm2 => ?_
    refine k m2 s2 s3 Fw2 Hw2 ip2 F2 H2 σ2 ?_ ?_
    · rw [List.length_append, ← Nat.add_assoc]
      exact at2
    · rw [List.length_append, ← Nat.add_assoc]
      exact hm2
  | brk =>
    cases e2
    cases hf
    exact h1.run a gn go W ds A m s₀ c fs _ J gf lv sh i Fw Hw ipw F H σ ρ ρ' ys .brk .brk pl wk gc at_ hm e1 rfl hd k
  | cnt =>
    cases e2
    cases hf
    exact h1.run a gn go W ds A m s₀ c fs _ J gf lv sh i Fw Hw ipw F H σ ρ ρ' ys .cnt .cont pl wk gc at_ hm e1 rfl hd k
  | ret d =>
    cases e2
    cases hf
  | rof d =>
    cases e2
    cases hf
theorem gs_yield (hx : X.xe = fun _ _ => False) {e : Expr} {yp pos : Pos} {g : Md D} (h : ∀ s H, DE (rb X s H n) e g) (hco : X.env.scope.isCoroutine = false := by rfl) (hi : interactive X.env = false := by rfl) : GS X n (.Expr (.Yield (some e) yp) pos) (gYield g) := by
  refine ⟨fun a gn go W ds A m s₀ c fs K J gf lv s i Fw Hw ipw F H σ ρ ρ' ys fl f pl wk gc at_ hm eg hf hd k => ?_⟩
  obtain ⟨⟨d, ρ1⟩, e1, e2⟩ := bind_some eg
  split at e2
  · rename_i no
    injection e2 with e2
    injection e2 with e2 e3
    injection e3 with e3 e4
    subst e2 e3
    have e4' : ρ1 = ρ' := e4
    subst e4'
    cases hf
    obtain ⟨r, hr⟩ := hd
    have hi' : ds[i]? = some d := by
      have := congrArg (fun l => l[0]?) hr
      simpa using this
    have hil := (List.getElem?_eq_some_iff.mp hi').1
    obtain ⟨m', rfl⟩ : ∃ m', m = m' + 1 := ⟨m - 1, by omega⟩
    refine seg_Expr_Yield gc.split gc.gd gc.guard ?_ hco hi
    rw [gc.over]
    obtain ⟨σw, ρw, now, p⟩ := at_.stp
    refine wpAny_mono ((h s₀ Hw).run ipw s σ H (fun v H' => ∃ F', Stp F σ ρ H F' σ ρ1 H' ∧ Dn.St (cxK X) F' H' σ ρ1 ∧ Rp (cxK X) F' v d) at_.inv ⟨F, ρ, d, ρ1, at_.st, e1, fun v F' H' p' s' r' => ⟨F', p', s', r'⟩⟩) (fun v s' q => ?_) fun x s' q => ?_
    · obtain ⟨x, H', I, rx, F', p', s2, rd⟩ := q
      intro kap hk
      refine ⟨i, Fw, Hw, ipw, F', H', x, d, by omega, at_.w, hi', rx, rd, yd_of pl I s2 now (p.trans p'), fun s3 F2 H2 ip w wa => ?_⟩
      have bz := wk _ _ _ _ _ w
      have go : Seg (model X.prog X.w) A (RG X n a gn W ds) (YG X n a gn W ds) m' s3 c (K .next) fs s3 := k m' s3 s3 F2 H2 ip F2 H2 σ ⟨w, bz, Inv.wake pl I bz wa, st_wake s2 no wa.ff wa.sub, σ, ρ1, no, Stp.refl⟩ (by simp; omega)
      exact ⟨hk .none s3 go, hk (.bool true) s3 go⟩
    · rw [show (rb X s₀ Hw n).xe = fun _ _ => False from hx] at q
      exact q.elim
  · cases e2

/-! ### while -/
def gWhile (c : Md Bool) (b : Gd) : Nat → Gd
  | 0 => fun _ => none
  | k + 1 => fun ρ => (c ρ).bind fun p => if p.1 = true then (b p.2).bind fun q => match q.2.1 with
      | .nx => (gWhile c b k q.2.2).bind fun r => some (q.1 ++ r.1, r.2)
      | .cnt => (gWhile c b k q.2.2).bind fun r => some (q.1 ++ r.1, r.2)
      | .brk => some (q.1, .nx, q.2.2)
      | _ => none else some ([], .nx, p.2)
theorem gWhile_nx {c : Md Bool} {b : Gd} : ∀ {k : Nat} {ρ ρ' : Dn.Env} {ys : List D} {fl : Fl}, gWhile c b k ρ = some (ys, fl, ρ') → fl = .nx
  | 0, _, _, _, _, h => by cases h
  | k + 1, ρ, ρ', ys, fl, h => by
    obtain ⟨⟨t, ρ1⟩, e1, e2⟩ := bind_some h
    split at e2
    · obtain ⟨⟨ys1, f1, ρ2⟩, e3, e4⟩ := bind_some e2
      cases f1 with
      | nx =>
        obtain ⟨⟨ys2, f2, ρ3⟩, e5, e6⟩ := bind_some e4
        cases e6
        exact gWhile_nx e5
      | cnt =>
        obtain ⟨⟨ys2, f2, ρ3⟩, e5, e6⟩ := bind_some e4
        cases e6
        exact gWhile_nx e5
      | brk =>
        cases e4
        rfl
      | ret d => cases e4
      | rof d => cases e4
    · cases e2
      rfl
theorem gc_loop {A : Around} {c c' : Code} {fs : List Frame} {gd : Bool → Bool} {k : Result → Sem PySem.Fin} {l kp : List Value} {p : Pos} (g : GC X A c fs gd) (hw : c'.weight = 0) (hu : c'.cUnits = 0) :
    GC X A c' (.ret k none (gd false) l c p kp :: fs) id where
  over := (over_loop hw hu).trans g.over
  split := by
    show (splitAtGen fs).map _ = none
    rw [g.split]; rfl
  guard := by
    show (gd false || fs.any Frame.guarded) = false
    rw [g.gd, g.guard]; rfl
  gd := rfl
theorem gs_while (hx : X.xe = fun _ _ => False) (N : Nat) {test : Expr} {body : List Stmt} {pos : Pos} {tc : Md Bool} {tb : Gd} (hc : ∀ s H, DT (rb X s H n) test tc) (hb : GSs X n body tb) : GS X n (.While test body [] pos) (gWhile tc tb N) := by
  refine ⟨fun a gn go W ds A m s₀ c fs K J gf lv s i Fw Hw ipw F H σ ρ ρ' ys fl f pl wk gc at_ hm eg hf hd k => ?_⟩
  have hnx := gWhile_nx eg
  subst hnx
  cases hf
  refine seg_While fun p => ?_
  have gl := fun (kk : Result → Sem PySem.Fin) => gc_loop (k := kk) (c' := .whileLoop test body [] X.env) (l := lv []) (kp := []) (p := p) gc rfl rfl
  have loop : ∀ (N m i : Nat) (s₀ s : Shared) (Fw Hw : Hp) (ipw : List (Addr × Obj)) (F H : Hp) (σ : L2.St) (ρ : Dn.Env) (ys : List D), At X n W i s₀ Fw Hw ipw s F H σ ρ → i + m = ds.length → gWhile tc tb N ρ = some (ys, .nx, ρ') → (∃ rest, ds.drop i = ys ++ rest) → GK X n a gn W ds A (i + ys.length) ρ' c (K .next) fs →
      Seg (model X.prog X.w) A (RG X n a gn W ds) (YG X n a gn W ds) m s₀ (.whileLoop test body [] X.env) ((model X.prog X.w).den (.whileLoop test body [] X.env))
        (.ret (fun r => ((match r with | .ok f => (.pure f : Sem Flow) | .error e => .raise e).onRaise (cameBack X.env)).wrap K J gf lv) none (gf false) (lv []) c p [] :: fs) s := by
    intro N
    induction N with
    | zero => intro m i s₀ s Fw Hw ipw F H σ ρ ys at_ hm eg; cases eg
    | succ N ih =>
      intro m i s₀ s Fw Hw ipw F H σ ρ ys at_ hm eg hd k
      obtain ⟨⟨t, ρ1⟩, e1, e2⟩ := bind_some eg
      refine seg_whileLoop ?_
      rw [(gl _).over]
      obtain ⟨σw, ρw, now, pw⟩ := at_.stp
      refine wpAny_mono ((hc s₀ Hw).run ipw s σ H (fun b H' => b = t ∧ ∃ F', Stp F σ ρ H F' σ ρ1 H' ∧ Dn.St (cxK X) F' H' σ ρ1) at_.inv ⟨F, ρ, t, ρ1, at_.st, e1, fun F' H' p' s' => ⟨rfl, F', p', s'⟩⟩) (fun b s' hb' => ?_) fun x s' q => ?_
      · obtain ⟨H1, I1, rfl, F1, p1, st1⟩ := hb'
        have at1 : At X n W i s₀ Fw Hw ipw s' F1 H1 σ ρ1 := ⟨at_.w, at_.bz, I1, st1, σw, ρw, now, pw.trans p1⟩
        cases b with
        | true =>
          rw [if_pos rfl] at e2 ⊢
          obtain ⟨⟨ys1, f1, ρ2⟩, e3, e4⟩ := bind_some e2
          have again : ∀ {f : Flow}, (f = .next ∨ f = .cont) → (∃ ys2, gWhile tc tb N ρ2 = some (ys2, .nx, ρ') ∧ ys = ys1 ++ ys2) → GK X n a gn W ds A (i + ys1.length) ρ2 (.whileLoop test body [] X.env) ((fun f => match f with
            | .next | .cont => .pure (.again (.whileLoop test body [] X.env))
            | .brk => .pure (.done .next)
            | .ret v => .pure (.done (.ret v))) f) (.ret (fun r => ((match r with | .ok f => (.pure f : Sem Flow) | .error e => .raise e).onRaise (cameBack X.env)).wrap K J gf lv) none (gf false) (lv []) c p [] :: fs) := by
            rintro f hf ⟨ys2, e5, rfl⟩ m' s₀' s2 Fw' Hw' ipw' F' H' σ' at' hm'
            obtain ⟨r, hr⟩ := hd
            rw [List.append_assoc] at hr
            have go := ih m' (i + ys1.length) s₀' s2 Fw' Hw' ipw' F' H' σ' ρ2 ys2 at' hm' e5 ⟨r, drop_app hr⟩ (by
              rw [List.length_append, ← Nat.add_assoc] at k
              exact k)
            rcases hf with rfl | rfl
            · exact seg_again rfl go
            · exact seg_again rfl go
          cases f1 with
          | nx =>
            obtain ⟨⟨ys2, f2, ρ3⟩, e5, e6⟩ := bind_some e4
            cases e6
            refine hb.run a gn go W ds A m s₀ _ _ _ _ id id s' i Fw Hw ipw F1 H1 σ ρ1 ρ2 ys1 .nx .next pl wk (gl _) at1 hm e3 rfl ?_ (again (.inl rfl) ⟨ys2, e5, rfl⟩)
            obtain ⟨r, hr⟩ := hd
            exact ⟨ys2 ++ r, by rw [hr, List.append_assoc]⟩
          | cnt =>
            obtain ⟨⟨ys2, f2, ρ3⟩, e5, e6⟩ := bind_some e4
            cases e6
            refine hb.run a gn go W ds A m s₀ _ _ _ _ id id s' i Fw Hw ipw F1 H1 σ ρ1 ρ2 ys1 .cnt .cont pl wk (gl _) at1 hm e3 rfl ?_ (again (.inr rfl) ⟨ys2, e5, rfl⟩)
            obtain ⟨r, hr⟩ := hd
            exact ⟨ys2 ++ r, by rw [hr, List.append_assoc]⟩
          | brk =>
            cases e4
            refine hb.run a gn go W ds A m s₀ _ _ _ _ id id s' i Fw Hw ipw F1 H1 σ ρ1 _ _ .brk .brk pl wk (gl _) at1 hm e3 rfl hd fun m' s₀' s2 Fw' Hw' ipw' F' H' σ' at' hm' => ?_
            exact seg_leaf (.ok .next) (k m' s₀' s2 Fw' Hw' ipw' F' H' σ' at' hm')
          | ret d => cases e4
          | rof d => cases e4
        | false =>
          rw [if_neg Bool.false_ne_true] at e2 ⊢
          cases e2
          refine seg_execs_nil ?_
          exact seg_leaf (.ok .next) (k m s₀ s' Fw Hw ipw F1 H1 σ at1 hm)
      · rw [show (rb X s₀ Hw n).xe = fun _ _ => False from hx] at q
        exact q.elim
  exact loop N m i s₀ s Fw Hw ipw F H σ ρ ys at_ hm eg hd k
end
end Gz
set_option maxHeartbeats 1000000
/-! a generator def: what a call makes -/
namespace Gz
open PySem PySem.Spec PyProof.Rows L2 Dn GenW

theorem cells_none {n : Nat} : ∀ {names : List (Str × NameKind)} {acc : List (Str × Addr)}, (∀ y ∈ names, y.2 ≠ .cell) → cellsFrom n names acc = acc
  | [], _, _ => rfl
  | (x, k) :: r, acc, h => by
    have hk : ¬ (k == NameKind.cell) = true := fun e => h (x, k) List.mem_cons_self (by simpa using e)
    unfold cellsFrom
    rw [if_neg hk]
    exact cells_none fun y hy => h y (List.mem_cons_of_mem _ hy)
section
variable (P : Program) (w : World) (K : PySem.W.Frag) (mg : Str → Option Value) (base : Heap) (N : List Str) (qual : Str) (scope : Scope) (f : Addr) (cd : Value)
/-- the context of a generator's body; a: where its object stands -/
abbrev gX (B : Around) (outer : List PySem.Env) (s : Shared) (H : Hp) (a : Addr) (go : Obj) : Cx :=
  { (cxOf CX0 P w K mg base N qual scope f cd B outer s H fun _ _ _ => False).nox with pn := [(a, go)] }
/-- what stands behind the call that makes it -/
structure Made (k : Nat) (body : List Stmt) (outer : List PySem.Env) (s : Shared) (H : Hp) (vs : List V) (a : Addr) (g : Nat) (go : Obj) (s' : Shared) : Prop where
  lt : s.heap.objs.size < a
  lt' : a < s'.heap.objs.size
  gen : ∀ h : Heap, h.get? a = some go → h.IsGen a g
  obj : s'.heap.get? a = some go
  fresh : s'.gens[g]? = some (.fresh (.func body (envOfC qual scope s.heap.objs.size f cd)))
  os : s'.os = s.os
  bare : AllBare s'.gens
  keep : ∀ b o, s.heap.get? b = some o → s'.heap.get? b = some o
  inv : ∀ B, Room k B → B.frames = some outer → Inv (gX P w K mg base N qual scope f cd B outer s H a go) [] (start N vs) H s'
structure GDef (k : Nat) (fd : FuncData) (body : List Stmt) (ps : List Str) : Prop where
  flat : ∀ y ∈ scope.names, y.2 ≠ .cell
  run : ∀ (A : Around) (outer : List PySem.Env) (s : Shared) (H : Hp) (args : Args) (us : List Value) (vs : List V), Room k A → Env0 P w K mg base A outer s H → BindsTo s fd args (ps.zip us) → Vals vs us → vs.length = ps.length →
    codeAny (model P w) A (.call (.ref f) args) (fun r s' => ∃ a g go, r = .ok (.ret (.ref a)) ∧ Made P w K mg base N qual scope f cd k body outer s H vs a g go s') s
end
theorem gdef_of {P : Program} {w : World} {K : PySem.W.Frag} {mg : Str → Option Value} {base : Heap} {k : Nat} {f : Addr} {name qual : Str} {params : Arguments} {body : List Stmt} {scope : Scope} {dV kV doc pm cdv ct oc : Value} {an od : Option Addr} {osl : Array (Option Value)} {N ps : List Str}
    (lk : K.lookup f = some ⟨oc, od, .func (PySem.W.fnOf name qual params body scope dV kV doc pm an cdv ct), osl⟩) (hcd : PySem.W.codeIn K cdv qual = true) (S : GScope N ps scope) (fl : ∀ y ∈ scope.names, y.2 ≠ .cell) :
    GDef P w K mg base N qual scope f cdv (k + 1) (PySem.W.fnOf name qual params body scope dV kV doc pm an cdv ct) body ps := by
  refine ⟨fl, fun A outer s H args us vs hr e0 hb r hl => ?_⟩
  have kin := e0.mod.kin.keeps fun b o e => (e0.bs b o e).1
  have lim := e0.mod.nolimit.keeps fun b o e => (e0.bs b o e).1
  have par : ∀ y ∈ ps.zip us, scope.names.lookup y.1 = some .local ∨ (scope.names.lookup y.1 = some .cell ∧ ((cellsFrom (s.heap.objs.size + 1) scope.names []).lookup y.1).isSome = true) := by
    rintro ⟨y, v⟩ hy
    rcases S.par y (List.of_mem_zip hy).1 with q | q
    · exact .inl q
    · exact absurd rfl (fl _ (PySem.mem_of_lookup q))
  refine codeAny_call_generator hr.depth (kin _ _ lk) rfl S.co S.gen rfl (PySem.W.codeRec_of kin hcd) (hb _ _ _ _ ?_)
  refine wpAny_newFunctionEnv_cells S.kind par fun env he s1 x => ?_
  subst he
  have lim1 := lim.keeps x.toInCall.keep
  refine ⟨lim1, ?_⟩
  obtain ⟨h1, tk, e1, hk1⟩ := x.done
  have L1 : s.heap.objs.size < s1.heap.objs.size := x.toInCall.ns.lt
  have g1 : s1.gens = s.gens := by rw [e1]
  have main : ∀ (go : Obj) (nm qn : Value) (t2 : Nat), go.cls = .type "generator" → go.data = .fields #[.int s1.gens.size 0, nm, qn] → go.slots = #[] → (s1.heap.push go).get? s1.heap.objs.size = some go →
      Made P w K mg base N qual scope f cdv (k + 1) body outer s H vs s1.heap.objs.size s1.gens.size go { s1 with gens := s1.gens.push (.fresh (.func body (envOfC qual scope s.heap.objs.size f cdv))), toks := t2, heap := s1.heap.push go } := by
    intro go nm qn t2 c1 c2 c3 c4
    have kp : ∀ b o, s1.heap.get? b = some o → (s1.heap.push go).get? b = some o := fun b o e => Heap.get?_push_of_some _ e
    have bare : AllBare (s1.gens.push (.fresh (.func body (envOfC qual scope s.heap.objs.size f cdv)))) := AllBare.push (by rw [g1]; exact e0.bare) rfl
    refine ⟨L1, ?_, fun h e => ⟨go, nm, qn, e, c1, c2, c3⟩, c4, Array.getElem?_push_size .., by rw [e1], bare, fun b o e => kp b o (x.toInCall.keep b o e), fun B hB fr => ?_⟩
    · show s1.heap.objs.size < (s1.heap.push go).objs.size
      rw [Heap.size_push]
      exact Nat.lt_succ_self _
    have e0' : Env0 P w K mg base B outer s H := ⟨fr, e0.mod, e0.bs, e0.bsz, e0.funs, e0.frf, e0.hok, e0.bare⟩
    have I1 : Inv (gcxOf P w K mg base N qual scope f cdv B outer s H (fun _ _ _ => False) []) [] (start N vs) H s1 := inv_startG S hB.hd e0' hl r x
    have I2 : Inv (gcxOf P w K mg base N qual scope f cdv B outer s H (fun _ _ _ => False) []) [] (start N vs) H { s1 with gens := s1.gens.push (.fresh (.func body (envOfC qual scope s.heap.objs.size f cdv))), toks := t2, heap := s1.heap.push go } :=
      I1.call' (ch := []) rfl (Un.kept kp) (I1.hok.kept kp) bare fun b z => by simp at z
    have I3 := Inv.pinnedG (pn := [(s1.heap.objs.size, go)]) (pins := []) I2 fun p hp => by
      have e : p = (s1.heap.objs.size, go) := by simpa using hp
      subst e
      exact ⟨c4, I1.hok.fresh (Nat.le_refl _), Nat.ne_of_gt L1, I1.nofs (Nat.le_refl _), fun v q => by rw [c2] at q; cases q⟩
    obtain ⟨ok, q⟩ := I3
    exact ⟨⟨ok.mod, ok.kind, ok.glob, ok.blt, ok.above, ok.inj, ok.has, ok.cab, ok.hd, ok.frames, ok.stk, ok.exf, ok.bs, ok.bsz, ok.noex, ok.exfs, ok.funs, ok.frf⟩, q, by assumption, by assumption, by assumption, by assumption, by assumption, by assumption, by assumption, by assumption, by assumption⟩
  exact ⟨_, _, _, rfl, main _ _ _ _ rfl rfl rfl (Heap.get?_push_size _ rfl)⟩
section
variable {P : Program} {w : World} {K : PySem.W.Frag} {mg : Str → Option Value} {base : Heap} {N : List Str} {qual : Str} {scope : Scope} {f : Addr} {cd : Value} {k : Nat} {body : List Stmt} {outer : List PySem.Env} {s s' : Shared} {H F : Hp} {vs : List V} {a : Addr} {g : Nat} {go : Obj} {B : Around}
theorem made_plain (M : Made P w K mg base N qual scope f cd k body outer s H vs a g go s') (fl : ∀ y ∈ scope.names, y.2 ≠ .cell) (bsz : base.objs.size ≤ s.heap.objs.size) : Plain (gX P w K mg base N qual scope f cd B outer s H a go) s.heap.objs.size a g go where
  cells := fun x => by
    show (cellsFrom _ scope.names []).lookup x = none
    rw [cells_none fl]
    rfl
  ex := rfl
  pn := rfl
  nL := Nat.le_refl _
  bz := fun b o e => Nat.lt_of_lt_of_le (Heap.lt_size e) bsz
  gen := M.gen
theorem cut_self (h : Heap) : cutH h.objs.size h = h := by
  unfold cutH
  have e : h.objs.take h.objs.size = h.objs := by simp
  rw [e]
/-- the generator at its beginning -/
theorem ready_fresh {gd : Gd} {args ds : List D} {ρ' : Dn.Env} {W : Wt} (hr : Room k B) (fr : B.frames = some outer) (M : Made P w K mg base N qual scope f cd k body outer s H vs a g go s') (fl : ∀ y ∈ scope.names, y.2 ≠ .cell) (bsz : base.objs.size ≤ s.heap.objs.size)
    (GB : GSs (gX P w K mg base N qual scope f cd B outer s H a go) s.heap.objs.size body gd) (ra : RpAll ⟨K, P, w⟩ F vs args) (e : gd (envV N.length args) = some (ds, .nx, ρ')) (wk : WtOk (gX P w K mg base N qual scope f cd B outer s H a go) s.heap.objs.size W)
    {s2 : Shared} {F2 H2 : Hp} {ip : List (Addr × Obj)} (w0 : W 0 F2 H2 ip s2) (wa : Wake (gX P w K mg base N qual scope f cd B outer s H a go) [s.heap.objs.size, a] ip F s' F2 H2 s2) :
    (GenState.fresh (.func body (envOfC qual scope s.heap.objs.size f cd))).Goes (model P w) B (RG (gX P w K mg base N qual scope f cd B outer s H a go) s.heap.objs.size a g W ds) (YG (gX P w K mg base N qual scope f cd B outer s H a go) s.heap.objs.size a g W ds) ds.length (.send .none) s2 := by
  have pl := made_plain (B := B) M fl bsz
  have I0 := M.inv B hr fr
  have I1 : Inv (rb (gX P w K mg base N qual scope f cd B outer s H a go) s H s.heap.objs.size) [] (start N vs) H s' := by
    show Inv { gX P w K mg base N qual scope f cd B outer s H a go with s_0 := { s with heap := cutH s.heap.objs.size s.heap }, H_0 := H } [] (start N vs) H s'
    rw [cut_self]
    exact I0
  have bz := wk _ _ _ _ _ w0
  have I2 := Inv.wake pl I1 bz wa
  have no : noOwn (envV N.length args) = true := by
    unfold noOwn
    rw [List.all_eq_true]
    intro o ho
    obtain ⟨i, hi⟩ := List.mem_iff_getElem?.mp ho
    cases o with
    | none => rfl
    | some c =>
      obtain ⟨d, _, rfl⟩ := vals_get hi
      rfl
  have st2 : Dn.St ⟨K, P, w⟩ F2 H2 (start N vs) (envV N.length args) := st_vals wa.sub (dpAll_mono wa.ff _ _ ra)
  refine ⟨rfl, seg_func ?_⟩
  refine GB.run a g go W ds B ds.length s2 _ [] _ _ id id s2 0 F2 H2 ip F2 H2 (start N vs) (envV N.length args) ρ' ds .nx .next pl wk ⟨over_func, rfl, rfl, rfl⟩ ⟨w0, bz, I2, st2, _, _, no, Stp.refl⟩ (Nat.zero_add _) e rfl ⟨[], by simp⟩ fun m s₀ s3 Fw Hw ipw F3 H3 σ at_ hm => ?_
  obtain ⟨σw, ρw, now, p⟩ := at_.stp
  refine seg_end (.ok (.ret .none)) (.inl ⟨.inl rfl, by omega, Fw, Hw, ipw, F3, H3, ?_, yd_of pl at_.inv at_.st now p⟩)
  have q := at_.w
  rw [Nat.zero_add] at q
  exact q
end
end Gz
set_option maxHeartbeats 1000000
/-! a generator's consumer: next -/
namespace Gz
open PySem PySem.Spec PyProof.Rows L2 Dn GenW

theorem inv_gens {X : Cx} {pins : List (Addr × Obj)} {σ : L2.St} {H : Hp} {s : Shared} {b : Array GenState} (I : Inv X pins σ H s) (h : AllBare b) : Inv X pins σ H (wG s b) :=
  ⟨I.ok, I.os, h, I.base, I.loc, I.cell, I.free, I.freeC, I.pin, I.hok, I.len⟩
theorem inv_set {X : Cx} {pins : List (Addr × Obj)} {σ : L2.St} {H : Hp} {s : Shared} {g : Nat} {x : GenState} (I : Inv X pins σ H s) (h : x.bare = true) : Inv X pins σ H (s.setGen g x) := inv_gens I (allBare_setGen I.bare h)
theorem ok_there {P : Program} {w : World} {H : Hp} {h : Heap} {a : Addr} {o : HO} (x : ObjOk P w H h a o) : ∃ u, h.get? a = some u := by
  cases o with
  | lst xs => obtain ⟨_, _, _, _, e⟩ := x; exact ⟨_, e⟩
  | tup xs => obtain ⟨_, _, _, ob, e, _⟩ := x; exact ⟨_, e⟩
  | dK kvs => obtain ⟨_, _, _, _, o, _, _, e, _⟩ := x; exact ⟨_, e⟩
  | dT kvs => obtain ⟨_, _, _, _, o, _, _, e, _⟩ := x; exact ⟨_, e⟩
  | set S n => obtain ⟨o, _, _, _, e, _⟩ := x; exact ⟨_, e⟩
  | ins C dx fs => obtain ⟨_, _, _, e, _⟩ := x; exact ⟨_, e⟩
  | own y => exact x
  | xd fs => obtain ⟨_, ⟨_, _, _, e, _⟩, _⟩ := x; exact ⟨_, e⟩
  | rng lo hi => obtain ⟨_, _, _, e⟩ := x; exact ⟨_, e⟩
  | frz ob u => obtain ⟨e, _⟩ := x; exact ⟨_, e⟩
  | tbl ps => exact ⟨_, show h.get? a = some _ from x⟩
  | met f y => exact ⟨_, show h.get? a = some _ from x⟩
  | ext φ => obtain ⟨_, e, _⟩ := x; exact e

/-- what stays true of the consumer C; n: the size at the generator's call, a: its object -/
structure Sta (C : Cx) (pins : List (Addr × Obj)) (n : Nat) (a : Addr) (T : List Addr) : Prop where
  nC : ∀ x c, C.env.cells.lookup x = some c → c < n
  nF : ∀ b ∈ frs C.stack, b < n
  nE : ∀ b : Addr, n ≤ b → b ∉ T → b ∈ C.ex ∨ C.s_0.heap.objs.size ≤ b
  fP : ∀ p ∈ C.pn ++ pins, p.1 ≠ n ∧ p.1 ≠ a
  fL : C.env.locals ≠ n ∧ C.env.locals ≠ a
  bz : C.base.objs.size ≤ n
  oF : ∀ b ∈ [n, a], b ∉ C.fs
def ipOf (C : Cx) (pins : List (Addr × Obj)) (n : Nat) (h : Heap) : List (Addr × Obj) := (C.pn ++ pins) ++ (if n ≤ C.env.locals then pinsAt [C.env.locals] h else [])
section
variable {C : Cx} {pins : List (Addr × Obj)} {n : Nat} {a : Addr} {g : Nat} {go : Obj} {N : List Str} {qual : Str} {scope : Scope} {f : Addr} {cd : Value} {sc : Shared} {Hc : Hp} {σ : L2.St} {F H Fs : Hp} {s ss : Shared} {T : List Addr}
abbrev gC (C : Cx) (N : List Str) (qual : Str) (scope : Scope) (f : Addr) (cd : Value) (sc : Shared) (Hc : Hp) (a : Addr) (go : Obj) : Cx := gX C.prog C.w C.K C.mg C.base N qual scope f cd C.A.in1 C.stack sc Hc a go
theorem loc_obj {pins : List (Addr × Obj)} (I : Inv C pins σ H s) : ∃ o, s.heap.get? C.env.locals = some o ∧ ∀ v, o.data ≠ .cell v := by
  obtain ⟨m, ⟨o, es, ep, e1, e2, _⟩, _⟩ := I.loc
  exact ⟨o, e1, fun v q => by rw [e2] at q; cases q⟩
theorem not_frs {pins : List (Addr × Obj)} (I : Inv C pins σ H s) {b : Addr} (h1 : b ≠ C.env.locals) (h2 : b ∉ C.fs) : b ∉ frs C.stack := fun z => by
  rcases List.mem_cons.mp (I.stkSub b z) with y | y
  · exact h1 y
  · exact h2 y
/-- the consumer's side of a waking -/
theorem wake_of (S : Sta C pins n a T) (I : Inv C pins σ H s) (ff : Same Fs F) (sub : Same F H) (kp : ∀ b ∈ [n, a], H b = none ∧ ∀ o, ss.heap.get? b = some o → s.heap.get? b = some o) : Wake (gC C N qual scope f cd sc Hc a go) [n, a] (ipOf C pins n s.heap) Fs ss F H s where
  ff := ff
  sub := sub
  keep := fun b hb => (kp b hb).2
  out := fun b hb => (kp b hb).1
  bs := I.bs
  funs := I.stack
  frf := I.stkFree
  hok := I.hok
  bare := I.bare
  pins := fun p hp => by
    rcases List.mem_append.mp hp with z | z
    · obtain ⟨h1, h2, h3, h4, h5⟩ := I.pin p z
      obtain ⟨k1, k2⟩ := S.fP p z
      exact ⟨h1, h2, by simp [k1, k2], not_frs I h3 h4, h5⟩
    · split at z
      · rename_i hn
        obtain ⟨k1, k2⟩ := of_pinsAt z
        have e : p.1 = C.env.locals := by simpa using k1
        obtain ⟨o, e1, e2⟩ := loc_obj I
        have e3 := k2
        rw [e, e1] at e3
        have eo : o = p.2 := Option.some.inj e3
        refine ⟨k2, by rw [e]; exact I.free, by rw [e]; simp [S.fL.1, S.fL.2], fun y => ?_, by rw [← eo]; exact e2⟩
        rw [e] at y
        exact absurd (S.nF _ y) (Nat.not_lt_of_le hn)
      · cases z
/-- the consumer is where it was -/
theorem back_of (S : Sta C pins n a T) {Fw Hw : Hp} {s₀ : Shared} (hT : ∀ b ∈ T, Hw b ≠ none) (I : Inv C pins σ Hw s₀) (y : Yd (gC C N qual scope f cd sc Hc a go) n a g Fw Hw (ipOf C pins n s₀.heap) s₀ F H s) : Inv C pins σ H s := by
  have pn : ∀ p ∈ C.pn ++ pins, s.heap.get? p.1 = some p.2 ∧ H p.1 = none := fun p hp => y.pin p (List.mem_append_left _ hp)
  have pl : n ≤ C.env.locals → s.heap.get? C.env.locals = s₀.heap.get? C.env.locals ∧ H C.env.locals = none := fun hn => by
    obtain ⟨o, e1, _⟩ := loc_obj I
    have hp := y.pin (C.env.locals, o) (List.mem_append_right _ (by rw [if_pos hn]; exact mem_pinsAt (by simp) e1))
    exact ⟨hp.1.trans e1.symm, hp.2⟩
  have old : ∀ b, b < n → ∀ o, s₀.heap.get? b = some o → (cutH n s₀.heap).get? b = some o := fun b hb o e => by rw [cut_get, if_pos hb]; exact e
  let ch : List Addr := (List.range s₀.heap.objs.size).filter fun b => decide (n ≤ b ∧ b ≠ C.env.locals ∧ b ∉ (C.pn ++ pins).map (·.1) ∧ b ∉ T)
  have inch : ∀ b o, s₀.heap.get? b = some o → b ∉ ch → b < n ∨ (n ≤ b ∧ b = C.env.locals) ∨ (∃ p ∈ C.pn ++ pins, p.1 = b) ∨ Hw b ≠ none := fun b o e hb => by
    by_cases h1 : b < n
    · exact .inl h1
    · by_cases h2 : b = C.env.locals
      · exact .inr (.inl ⟨Nat.le_of_not_lt h1, h2⟩)
      · by_cases h3 : b ∈ (C.pn ++ pins).map (·.1)
        · obtain ⟨p, hp, e⟩ := List.mem_map.mp h3
          exact .inr (.inr (.inl ⟨p, hp, e⟩))
        · by_cases h4 : b ∈ T
          · exact .inr (.inr (.inr (hT b h4)))
          refine absurd (List.mem_filter.mpr ⟨List.mem_range.mpr (Heap.lt_size e), ?_⟩) hb
          exact decide_eq_true ⟨Nat.le_of_not_lt h1, h2, h3, h4⟩
  refine I.call' (ch := ch) y.os ⟨fun b o e h1 h2 h3 => ?_, fun b o e h1 h2 h3 => ?_, fun b o e h1 h3 => ?_, fun b o e h3 => ?_, fun b xs e => y.gr.hh b _ e, fun b o u e => y.gr.hh b _ e, fun b ps e => ⟨#[], by rw [y.gr.hh b _ e]; simp⟩⟩ y.hok y.bare fun b hb => ?_
  · rcases inch b o e h3 with z | ⟨z1, z2⟩ | ⟨p, hp, z⟩ | z
    · exact y.un.keep b o (old b z o e) h1 h2 (by simp)
    · subst z2
      rw [(pl z1).1]
      exact e
    · subst z
      have e1 := (I.pin p hp).1
      rw [e] at e1
      cases e1
      exact (pn p hp).1
    · exact absurd h1 z
  · rcases inch b o e h3 with z | ⟨z1, z2⟩ | ⟨p, hp, z⟩ | z
    · exact y.un.slot b o (old b z o e) h1 h2 (by simp)
    · exact absurd (S.nF b h2) (Nat.not_lt_of_le z1)
    · subst z
      have e1 := (I.pin p hp).1
      rw [e] at e1
      cases e1
      exact ⟨p.2.slots, (pn p hp).1⟩
    · exact absurd h1 z
  · rcases inch b o e h3 with z | ⟨z1, z2⟩ | ⟨p, hp, z⟩ | z
    · exact y.un.free b o (old b z o e) h1 (by simp)
    · subst z2
      exact (pl z1).2
    · subst z
      exact (pn p hp).2
    · exact absurd h1 z
  · rcases inch b o e h3 with z | ⟨z1, z2⟩ | ⟨p, hp, z⟩ | z
    · exact y.un.there b o (old b z o e) (by simp)
    · subst z2
      rw [(pl z1).1]
      exact ⟨o, e⟩
    · subst z
      exact ⟨_, (pn p hp).1⟩
    · cases q : Hw b with
      | none => exact absurd q z
      | some o' => exact ok_there (y.hok b o' (y.gr.hh b o' q))
  · have hb' := of_decide_eq_true (List.mem_filter.mp hb).2
    refine ⟨S.nE b hb'.1 hb'.2.2.2, hb'.2.1, fun x c e z => ?_, fun p hp z => hb'.2.2.1 (List.mem_map.mpr ⟨p, hp, z⟩)⟩
    subst z
    exact absurd (S.nC x c e) (Nat.not_lt_of_le hb'.1)

/-- what the consumer has at a waking: Cp i F H σ besides -/
def Wc (C : Cx) (pins : List (Addr × Obj)) (n : Nat) (g : Nat) (Cp : Nat → Hp → Hp → L2.St → Prop) : Wt := fun i F H ip s => C.base.objs.size ≤ (cutH n s.heap).objs.size ∧ (s.gens[g]? = some .running → ip = ipOf C pins n s.heap ∧ ∃ σ, Inv C pins σ H s ∧ Cp i F H σ)
theorem cut_ge (S : Sta C pins n a T) {h : Heap} (hs : n ≤ h.objs.size) : C.base.objs.size ≤ (cutH n h).objs.size := by
  show C.base.objs.size ≤ (h.objs.extract 0 n).size
  rw [Array.size_extract, Nat.min_eq_left hs, Nat.sub_zero]
  exact S.bz
def Rdy (C : Cx) (N : List Str) (qual : Str) (scope : Scope) (f : Addr) (cd : Value) (sc : Shared) (Hc : Hp) (n : Nat) (a : Addr) (g : Nat) (go : Obj) (W : Wt) (ds : List D) (i : Nat) (Fs : Hp) (ss : Shared) (gs : GenState) : Prop :=
  ∀ s F H ip, W i F H ip s → Wake (gC C N qual scope f cd sc Hc a go) [n, a] ip Fs ss F H s → gs.Goes (model C.prog C.w) C.A.in1 (RG (gC C N qual scope f cd sc Hc a go) n a g W ds) (YG (gC C N qual scope f cd sc Hc a go) n a g W ds) (ds.length - i) (.send .none) s
/-- the generator's things -/
def Gt (n : Nat) (a : Addr) (g : Nat) (H : Hp) (s : Shared) : Prop := (∀ b ∈ [n, a], H b = none ∧ ∃ o, s.heap.get? b = some o ∧ ∀ v, o.data ≠ .cell v) ∧ s.heap.IsGen a g
theorem gt_size {H : Hp} (h : Gt n a g H s) : n ≤ s.heap.objs.size := by
  obtain ⟨o, e, _⟩ := (h.1 n (by simp)).2
  exact Nat.le_of_lt (Heap.lt_size e)
structure Item (C : Cx) (pins : List (Addr × Obj)) (N : List Str) (qual : Str) (scope : Scope) (f : Addr) (cd : Value) (sc : Shared) (Hc : Hp) (n : Nat) (a : Addr) (g : Nat) (go : Obj) (Cp : Nat → Hp → Hp → L2.St → Prop) (ds : List D) (i : Nat) (d : D) (u : Value) (σ : L2.St) (Fw Hw F H : Hp) (x : V) (gs : GenState) (s : Shared) : Prop where
  inv : Inv C pins σ H s
  cp : Cp i Fw Hw σ
  gr : Grow Fw Hw F H
  rel : RelV x u
  rp : Rp (cxK C) F x d
  at_ : s.gens[g]? = some gs
  sl : susp gs = true
  gt : Gt n a g H s
  rdy : Rdy C N qual scope f cd sc Hc n a g go (Wc C pins n g Cp) ds (i + 1) F s gs
theorem gen_next {Cp : Nat → Hp → Hp → L2.St → Prop} {ds : List D} {i : Nat} {gs : GenState} {E : Value → Shared → Prop} (hn : n = sc.heap.objs.size) (S : Sta C pins n a T) (hT : ∀ i F H σ, Cp i F H σ → ∀ b ∈ T, H b ≠ none) (hd : C.A.handled = none) (room : C.A.depth < recursionLimit) (I : Inv C pins σ H s) (cp : Cp i F H σ) (ff : Same Fs F) (sub : Same F H) (hi : i ≤ ds.length)
    (gt : Gt n a g H s) (kp : ∀ b ∈ [n, a], ∀ o, ss.heap.get? b = some o → s.heap.get? b = some o) (hg : s.gens[g]? = some gs) (R : Rdy C N qual scope f cd sc Hc n a g go (Wc C pins n g Cp) ds i Fs ss gs) :
    wpAny (model C.prog C.w) C.A (pyNext (.ref a)) (fun r s1 => (∃ d u σ' Fw Hw F' H' x gs', ds[i]? = some d ∧ r = some u ∧ Item C pins N qual scope f cd sc Hc n a g go Cp ds i d u σ' Fw Hw F' H' x gs' s1) ∨
      (i = ds.length ∧ r = none ∧ ∃ σ' Fw Hw F' H', Inv C pins σ' H' s1 ∧ Cp i Fw Hw σ' ∧ Grow Fw Hw F' H')) E s := by
  subst hn
  have hgl : g < s.gens.size := (Array.getElem?_eq_some_iff.mp hg).1
  have run : (s.setGen g .running).gens[g]? = some .running := setGen_at hgl
  have Ir : Inv C pins σ H (s.setGen g .running) := inv_set I rfl
  have bz := cut_ge S (gt_size gt)
  have wr : Wc C pins sc.heap.objs.size g Cp i F H (ipOf C pins sc.heap.objs.size s.heap) (s.setGen g .running) := ⟨bz, fun _ => ⟨rfl, σ, Ir, cp⟩⟩
  have wa : Wake (gC C N qual scope f cd sc Hc a go) [sc.heap.objs.size, a] (ipOf C pins sc.heap.objs.size s.heap) Fs ss F H (s.setGen g .running) := wake_of S Ir ff sub fun b hb => ⟨(gt.1 b hb).1, kp b hb⟩
  have goes := R _ _ _ _ wr wa
  -- what is known at a yield
  have got : ∀ {m v s₁ kap}, YG (gC C N qual scope f cd sc Hc a go) sc.heap.objs.size a g (Wc C pins sc.heap.objs.size g Cp) ds m (s.setGen g .running) v s₁ kap → ∃ i' Fw Hw F' H' x d σ', i' + 1 + m = ds.length ∧ ds[i']? = some d ∧ RelV x v ∧ Rp (cxK C) F' x d ∧ Cp i' Fw Hw σ' ∧ Grow Fw Hw F' H' ∧ Inv C pins σ' H' s₁ ∧ Gt sc.heap.objs.size a g H' s₁ ∧
      ∀ s2 F2 H2 ip, Wc C pins sc.heap.objs.size g Cp (i' + 1) F2 H2 ip s2 → Wake (gC C N qual scope f cd sc Hc a go) [sc.heap.objs.size, a] ip F' s₁ F2 H2 s2 → kap (.send .none) s2 ∧ kap (.send (.bool true)) s2 := fun {m v s₁ kap} hv => by
    obtain ⟨i', Fw, Hw, ipw, F', H', x, d, e1, w1, e2, rx, rd, y, k⟩ := hv
    obtain ⟨rfl, σ', I1, c1⟩ := w1.2 run
    exact ⟨i', Fw, Hw, F', H', x, d, σ', e1, e2, rx, rd, c1, y.gr, back_of S (hT _ _ _ _ c1) I1 y, ⟨y.out, y.gen⟩, k⟩
  have probe : ∀ {i' : Nat} {F' H' : Hp} {σ' : L2.St} {s₁ : Shared}, Inv C pins σ' H' s₁ → Gt sc.heap.objs.size a g H' s₁ → Same F' H' → Wc C pins sc.heap.objs.size g Cp i' F' H' (ipOf C pins sc.heap.objs.size s₁.heap) (s₁.setGen g .finished) ∧ Wake (gC C N qual scope f cd sc Hc a go) [sc.heap.objs.size, a] (ipOf C pins sc.heap.objs.size s₁.heap) F' s₁ F' H' (s₁.setGen g .finished) := fun {i' F' H' σ' s₁} I1 g1 sb => by
    refine ⟨⟨cut_ge S (gt_size g1), fun z => ?_⟩, wake_of S (inv_set I1 rfl) (Same.refl _) sb fun b hb => ⟨(g1.1 b hb).1, fun o e => e⟩⟩
    have z' : (s₁.gens.setIfInBounds g .finished)[g]? = some .running := z
    rw [Array.getElem?_setIfInBounds, if_pos rfl] at z'
    split at z' <;> cases z'
  refine wpAny_gsz (n := g + 1) hgl (next_genG (F := RF (gC C N qual scope f cd sc Hc a go) sc.heap.objs.size a g (Wc C pins sc.heap.objs.size g Cp) ds) (Er := fun _ _ => False) hd I.nolimit room gt.2 hg goes (fun v s₁ gs' hb hv => ?_) (fun s₁ hp h' hk => ?_) fun e s₁ z => z.elim)
  · intro hsz
    obtain ⟨i', Fw, Hw, F', H', x, d, σ', e1, e2, rx, rd, c1, gr, I1, g1, k⟩ := got hv
    obtain ⟨w1, a1⟩ := probe (i' := i' + 1) I1 g1 gr.fh
    obtain ⟨k1, k2⟩ := k _ _ _ _ w1 a1
    have hil := (List.getElem?_eq_some_iff.mp e2).1
    obtain ⟨m, hm⟩ : ∃ m, ds.length - i = m + 1 := by
      cases q : ds.length - i with
      | zero =>
        simp only [q] at k1
      | succ m => exact ⟨m, rfl⟩
    have ei : i' = i := by omega
    subst ei
    simp only [hm] at k1 k2
    have hs : susp gs' = true := by
      cases gs' with
      | fresh c => exact absurd k2.1 (by intro z; cases z)
      | suspended _ _ _ _ _ _ => rfl
      | running => exact k1.elim
      | finished => exact k1.elim
    have hsz1 : g < s₁.gens.size := by
      have q : (s₁.setGen g gs').gens.size = s₁.gens.size := setGen_size _ _ _
      omega
    refine .inl ⟨d, v, σ', Fw, Hw, F', H', x, gs', e2, rfl, inv_set I1 hb, c1, gr, rx, rd, setGen_at hsz1, hs, g1, fun s2 F2 H2 ip w2 a2 => ?_⟩
    have a3 : Wake (gC C N qual scope f cd sc Hc a go) [sc.heap.objs.size, a] ip F' s₁ F2 H2 s2 := ⟨a2.ff, a2.sub, a2.keep, a2.out, a2.bs, a2.funs, a2.frf, a2.hok, a2.bare, a2.pins⟩
    have q := (k s2 F2 H2 ip w2 a3).1
    simp only [hm] at q
    have em : ds.length - (i' + 1) = m := by omega
    rw [em]
    exact q
  · intro _
    obtain ⟨hm, Fw, Hw, ipw, F', H', w1, y⟩ := hp
    obtain ⟨rfl, σ', I1, c1⟩ := w1.2 run
    have I2 := back_of S (hT _ _ _ _ c1) I1 y
    have ei : i = ds.length := by omega
    refine .inr ⟨ei, rfl, σ', Fw, Hw, F', H', ?_, by rw [ei]; exact c1, y.gr⟩
    exact (inv_set (g := g) (x := .finished) I2 rfl).call' (ch := []) rfl (Un.kept hk) (I2.hok.kept hk) (allBare_setGen I2.bare rfl) fun b z => by simp at z
end
end Gz
set_option maxHeartbeats 2000000
/-! for over a generator -/
namespace Gz
open PySem PySem.Spec PyProof.Rows L2 Dn GenW

theorem same_old {F1 F F' H H' : Hp} {Fs : Hp} (g : Grow Fs H F H') (h1 : Same Fs F1) (h2 : Same F1 H) : ∃ F', Grow F1 H F' H' ∧ Same F F' := by
  refine ⟨fun b => match F1 b with | some o => some o | none => F b, ⟨fun b o e => ?_, g.hh, fun b o e => ?_, fun b o e => ?_⟩, fun b o e => ?_⟩
  · simp only [e]
  · cases q : F1 b with
    | some o' =>
      simp only [q] at e
      cases e
      exact g.hh b _ (h2 b _ q)
    | none =>
      simp only [q] at e
      exact g.fh b o e
  · cases q : F1 b with
    | some o' => simp only [q]
    | none =>
      simp only [q]
      rw [g.new b o e]
      cases z : Fs b with
      | none => rfl
      | some o' =>
        rw [h1 b o' z] at q
        cases q
  · cases q : F1 b with
    | some o' =>
      simp only [q]
      exact (g.hh b o' (h2 b o' q)).symm.trans (g.fh b o e)
    | none =>
      simp only [q]
      exact e

/-- a generator def, whole: gd is what its body denotes -/
structure GOk (P : Program) (w : World) (K : PySem.W.Frag) (mg : Str → Option Value) (base : Heap) (N : List Str) (qual : Str) (scope : Scope) (f : Addr) (cd : Value) (k : Nat) (fd : FuncData) (body : List Stmt) (ps : List Str) (gd : Gd) : Prop where
  call : GDef P w K mg base N qual scope f cd (k + 1) fd body ps
  body : ∀ (B : Around) (outer : List PySem.Env) (s : Shared) (H : Hp) (a : Addr) (go : Obj), Room k (B.deeper (envOfC qual scope s.heap.objs.size f cd)) → GSs (gX P w K mg base N qual scope f cd B outer s H a go) s.heap.objs.size body gd
/-- all that it hands out -/
def runG (N : Nat) (gd : Gd) (args : List D) : Option (List D) := (gd (envV N args)).bind fun p => match p.2.1 with
  | .nx => some p.1
  | _ => none
def gCallG (f : List D → Option (List D)) (gs : Md (List D)) : Md (List D) := fun ρ => (gs ρ).bind fun p => (f p.1).bind fun ds => some (ds, p.2)
section
variable {C : Cx} {pins : List (Addr × Obj)} {N ps : List Str} {qual : Str} {scope : Scope} {f : Addr} {cd : Value} {fd : FuncData} {gbody : List Stmt} {gd : Gd} {k : Nat} {x : Str} {e tg : Expr} {es : List Expr} {p pos pos' : Pos}
/-- the call: a generator that has not begun -/
theorem run_callG {gs : Md (List D)} (G : GOk C.prog C.w C.K C.mg C.base N qual scope f cd k fd gbody ps gd) (hr : Room (k + 1) C.A) (hg : Gl C x) (hm : C.mg x = some (.ref f)) (hk : PySem.W.keepIn C.K (.ref f) = true) (hb : Binds C.K fd ps []) (ha : DA C (e :: es) gs) (hlen : ∀ ρ ds ρ', gs ρ = some (ds, ρ') → ds.length = ps.length)
    {s : Shared} {σ : L2.St} {F H : Hp} {ρ ρ' : Dn.Env} {ds : List D} (I : Inv C pins σ H s) (st : Dn.St (cxK C) F H σ ρ) (eg : gCallG (runG N.length gd) gs ρ = some (ds, ρ'))
    (hdb : (x == ("__debug__" : Str)) = false := by decide) (he : starEach (e :: es) C.env = (false, eval e C.env) :: starEach es C.env := by rfl) (hpl : (backTo pos' (starEach es C.env)).any (·.1) = false := by rfl) :
    wpAny (model C.prog C.w) C.A (eval (.Call (.Name x p) (e :: es) [] pos') C.env) (fun u s' => ∃ F1 H1 sc vs args a g go ρG, u = .ref a ∧ Stp F σ ρ H F1 σ ρ' H1 ∧ Dn.St (cxK C) F1 H1 σ ρ' ∧ Inv C pins σ H1 sc ∧ Made C.prog C.w C.K C.mg C.base N qual scope f cd (k + 1) gbody C.stack sc H1 vs a g go s' ∧
      RpAll (cxK C) F1 vs args ∧ gd (envV N.length args) = some (ds, .nx, ρG)) C.xe s := by
  obtain ⟨⟨args, ρ1⟩, e1, e2⟩ := bind_some eg
  obtain ⟨ds', e3, e4⟩ := bind_some e2
  obtain ⟨h1, h2⟩ := Prod.mk.inj (Option.some.inj e4)
  subst h1
  subst h2
  obtain ⟨⟨ys, fl, ρG⟩, e5, e6⟩ := bind_some e3
  have hfl : fl = .nx ∧ ys = ds' := by
    cases fl with
    | nx =>
      cases e6
      exact ⟨rfl, rfl⟩
    | ret d => cases e6
    | rof d => cases e6
    | brk => cases e6
    | cnt => cases e6
  obtain ⟨rfl, rfl⟩ := hfl
  refine wpAny_Call_Name_kw (ld_glob I hg hm ?_ hdb)
  refine PySem.W.callWith_K (h₀ := C.base) I.ok.mod.kin hk (thn (ha.run pos' pins s σ H (fun vs H1 => ∃ F1, Stp F σ ρ H F1 σ ρ1 H1 ∧ Dn.St (cxK C) F1 H1 σ ρ1 ∧ RpAll (cxK C) F1 vs args) I ⟨F, ρ, args, ρ1, st, e1, fun vs F1 H1 p1 s1 r1 => ⟨F1, p1, s1, r1⟩⟩) fun us s1 ⟨vs, H1, I1, r, F1, p1, st1, ra⟩ => ⟨I1.kIn, ?_⟩) he hpl
  have hl : vs.length = ps.length := by
    rw [da_len ra]
    exact hlen _ _ _ e1
  have hb1 := hb s1 us I1.kIn (by rw [List.append_nil, ← r.length]; exact hl)
  rw [List.append_nil] at hb1
  refine wpAny_call (codeAny_mono (G.call.run C.A C.stack s1 H1 ⟨us, []⟩ us vs hr I1.env0 hb1 r hl) fun r' s' hq => ?_)
  obtain ⟨a, g, go, rfl, M⟩ := hq
  exact ⟨F1, H1, s1, vs, args, a, g, go, ρG, rfl, p1, st1, I1, M, ra, e5⟩
theorem sta_of {σ : L2.St} {H : Hp} {s : Shared} {a : Addr} (I : Inv C pins σ H s) (ha : s.heap.objs.size < a) : Sta C pins s.heap.objs.size a [] where
  nC := fun y c e => by
    obtain ⟨v, q⟩ := I.cell y c e
    exact q.lt
  nF := fun b hb => by
    obtain ⟨_, o, e, _⟩ := I.stack.mem hb
    exact Heap.lt_size e
  nE := fun b hb _ => .inr (Nat.le_trans I.sz hb)
  fP := fun p hp => by
    have := Heap.lt_size (I.pin p hp).1
    exact ⟨Nat.ne_of_lt this, Nat.ne_of_lt (Nat.lt_trans this ha)⟩
  fL := ⟨Nat.ne_of_lt I.lt, Nat.ne_of_lt (Nat.lt_trans I.lt ha)⟩
  bz := Nat.le_trans I.ok.bsz I.sz
  oF := fun b hb => by
    rcases List.mem_cons.mp hb with z | z
    · exact I.nofs (Nat.le_of_eq z.symm)
    · rw [List.mem_singleton.mp z]
      exact I.nofs (Nat.le_of_lt ha)
/-- at the beginning -/
theorem rdy_fresh {vs : List V} {args ds : List D} {ρG : Dn.Env} {F Hc : Hp} {sc s' : Shared} {a : Addr} {g : Nat} {go : Obj} {W : Wt} (G : GOk C.prog C.w C.K C.mg C.base N qual scope f cd k fd gbody ps gd) (hr : Room (k + 2) C.A) (fr : C.A.frames = some C.stack)
    (M : Made C.prog C.w C.K C.mg C.base N qual scope f cd (k + 1) gbody C.stack sc Hc vs a g go s') (bsz : C.base.objs.size ≤ sc.heap.objs.size) (ra : RpAll (cxK C) F vs args) (e : gd (envV N.length args) = some (ds, .nx, ρG)) (wk : ∀ i F H ip s, W i F H ip s → C.base.objs.size ≤ (cutH sc.heap.objs.size s.heap).objs.size) :
    Rdy C N qual scope f cd sc Hc sc.heap.objs.size a g go W ds 0 F s' (.fresh (.func gbody (envOfC qual scope sc.heap.objs.size f cd))) := fun s2 F2 H2 ip w0 wa => by
  have hr1 : Room (k + 1) C.A.in1 := hr.in1
  exact ready_fresh hr1 fr M G.call.flat bsz (G.body _ _ _ _ _ _ (hr1.deeper _)) ra e wk w0 wa
/-- code of the consumer's, run while the generator sleeps -/
theorem keep_run {α : Type} {M : Model} {A : Around} {t : Sem α} {Q R : α → Shared → Prop} {E : Value → Shared → Prop} {s : Shared} (bare : AllBare s.gens) (h : wpAny M A t Q (fun _ _ => False) (wG s (s.gens.map dead)))
    (hQ : ∀ a s' b, Q a (wG s' b) → (AllBare b → AllBare s'.gens) → Kept s.gens s'.gens → R a s') : wpAny M A t R E s :=
  wpAny_kept h (fun a s' b q r kp => hQ a s' b q (fun hb => bare_rel bare hb r) kp) fun _ _ _ z _ _ => z.elim
/-- the loop's invariant -/
structure Lp (C : Cx) (pins : List (Addr × Obj)) (N : List Str) (qual : Str) (scope : Scope) (f : Addr) (cd : Value) (sc : Shared) (Hc : Hp) (a : Addr) (g : Nat) (go : Obj) (Cp : Nat → Hp → Hp → L2.St → Prop) (ds : List D) (i : Nat) (s : Shared) (σ : L2.St) (F H Fs : Hp) (ss : Shared) (gs : GenState) : Prop where
  hi : i ≤ ds.length
  inv : Inv C pins σ H s
  cp : Cp i F H σ
  ff : Same Fs F
  sub : Same F H
  at_ : s.gens[g]? = some gs
  gt : Gt sc.heap.objs.size a g H s
  kp : ∀ b ∈ [sc.heap.objs.size, a], ∀ o, ss.heap.get? b = some o → s.heap.get? b = some o
  rdy : Rdy C N qual scope f cd sc Hc sc.heap.objs.size a g go (Wc C pins sc.heap.objs.size g Cp) ds i Fs ss gs
theorem gt_pins {σ : L2.St} {H H' : Hp} {s s' : Shared} {a : Addr} {g n : Nat} (gt : Gt n a g H s) (I : Inv C (pins ++ pinsAt [n, a] s.heap) σ H' s') : Gt n a g H' s' ∧ ∀ b ∈ [n, a], ∀ o, s.heap.get? b = some o → s'.heap.get? b = some o := by
  have kp : ∀ b ∈ [n, a], ∀ o, s.heap.get? b = some o → s'.heap.get? b = some o ∧ H' b = none := fun b hb o e =>
    let z := I.pin (b, o) (List.mem_append_right _ (List.mem_append_right _ (mem_pinsAt hb e)))
    ⟨z.1, z.2.1⟩
  refine ⟨⟨fun b hb => ?_, ?_⟩, fun b hb o e => (kp b hb o e).1⟩
  · obtain ⟨o, e, d⟩ := (gt.1 b hb).2
    exact ⟨(kp b hb o e).2, o, (kp b hb o e).1, d⟩
  · obtain ⟨o, nm, qn, e, r⟩ := gt.2
    exact ⟨o, nm, qn, (kp a (by simp) o e).1, r⟩
theorem gt_pin {σ : L2.St} {H : Hp} {s : Shared} {a : Addr} {g n : Nat} {T : List Addr} (S : Sta C pins n a T) (I : Inv C pins σ H s) (gt : Gt n a g H s) : Inv C (pins ++ pinsAt [n, a] s.heap) σ H s :=
  I.pins_of fun p hp => (List.mem_append.mp hp).elim (fun z => I.pin p (List.mem_append_right _ z)) fun z => by
    obtain ⟨hb, e⟩ := of_pinsAt z
    obtain ⟨h1, o, e1, d⟩ := gt.1 p.1 hb
    rw [e] at e1
    cases e1
    have hL : p.1 ≠ C.env.locals := fun y => by
      rcases List.mem_cons.mp hb with z | z
      · exact S.fL.1 (y.symm.trans z)
      · exact S.fL.2 (y.symm.trans (by simpa using z))
    exact ⟨e, h1, hL, S.oF p.1 hb, d⟩
theorem step_obj {s : Shared} {a : Addr} {g : Nat} {u : Value} {M : Model} {A : Around} {E : Value → Shared → Prop} {Q : Unit → Shared → Prop} (h : s.heap.IsGen a g) (hQ : Q () s) : wpAny M A (letOwnedTupleGo tg (.ref a) u) Q E s := by
  obtain ⟨o, nm, qn, ho, hc, hd, _⟩ := h
  exact go_of (n := "generator") ho hc hd (by decide) hQ
theorem ds_forG {gs : Md (List D)} {gt : D → Dn.Env → Option Dn.Env} {gb : Sd} {body : List Stmt} {is : List Nat} (hx : C.xe = fun _ _ => False) (hp : PassesOwn (model C.prog C.w) C.A C.env C.xe) (hc : C.calm = true) (G : GOk C.prog C.w C.K C.mg C.base N qual scope f cd k fd gbody ps gd) (hr : Room (k + 2) C.A) (hg : Gl C x) (hm : C.mg x = some (.ref f)) (hk : PySem.W.keepIn C.K (.ref f) = true) (hb : Binds C.K fd ps [])
    (ha : DA C (e :: es) gs) (hlen : ∀ ρ ds ρ', gs ρ = some (ds, ρ') → ds.length = ps.length) (ht : DG C tg is gt) (hd : DSs C body gb)
    (hdb : (x == ("__debug__" : Str)) = false := by decide) (he : starEach (e :: es) C.env = (false, eval e C.env) :: starEach es C.env := by rfl) (hpl : (backTo pos' (starEach es C.env)).any (·.1) = false := by rfl) (hs : ∀ y, foldedSetIterable (.Call (.Name x p) (e :: es) [] pos') C.env y = pure y := by intro _; rfl) :
    DS C (.For tg (.Call (.Name x p) (e :: es) [] pos') body [] pos) (sFor (gCallG (runG N.length gd) gs) gt gb) := by
  refine ⟨fun pins s σ H D I h => ?_⟩
  obtain ⟨F, ρ, fl, ρ', st, eg, kk⟩ := h
  obtain ⟨⟨ds, ρ1⟩, e1, eg1⟩ := bind_some eg
  refine wpAny_For (thn (run_callG G (hr.mono (by omega)) hg hm hk hb ha hlen I st e1 hdb he hpl) fun v s1 hq => ?_) hs
  obtain ⟨F1, H1, sc, vs, args, a, g, go, ρG, rfl, p1, st1, I1, M, ra, eG⟩ := hq
  have S := sta_of I1 M.lt
  have I2 : Inv C pins σ H1 s1 := I1.call' (ch := []) M.os (Un.kept M.keep) (I1.hok.kept M.keep) M.bare fun b z => by simp at z
  refine wpAny_pyIter_gen (M.gen _ M.obj) ?_
  have MI := M.inv C.A.in1 (hr.in1.mono (by omega)) I1.ok.frames
  have gt0 : Gt sc.heap.objs.size a g H1 s1 := by
    refine ⟨fun b hb => ?_, M.gen _ M.obj⟩
    rcases List.mem_cons.mp hb with z | z
    · rw [z]
      exact ⟨MI.free, loc_obj MI⟩
    · rw [List.mem_singleton.mp z]
      have q := MI.pin (a, go) (by simp)
      exact ⟨q.2.1, go, M.obj, q.2.2.2.2⟩
  let Cp : Nat → Hp → Hp → L2.St → Prop := fun i Fi Hi σi => ∃ ρi, Stp F σ ρ H Fi σi ρi Hi ∧ Dn.St (cxK C) Fi Hi σi ρi ∧ forD gt gb (ds.drop i) ρi = some (fl, ρ')
  have R0 := rdy_fresh (W := Wc C pins sc.heap.objs.size g Cp) G hr I1.ok.frames M (Nat.le_trans I1.ok.bsz I1.sz) ra eG fun i F H ip s w => w.1
  refine codeAny_forLoop_any (fun m s' => ∃ i σi Fi Hi Fs ss gst, m = ds.length - i ∧ Lp C pins N qual scope f cd sc H1 a g go Cp ds i s' σi Fi Hi Fs ss gst) ?_ ds.length ⟨0, σ, F1, H1, F1, s1, _, by simp, Nat.zero_le _, I2, ⟨ρ1, p1, st1, by simpa using eg1⟩, Same.refl _, st1.sub, M.fresh, gt0, fun b _ o e => e, R0⟩
  rintro m s3 ⟨i, σ3, F3, H3, Fs, ss, gst, rfl, L⟩
  refine wpAny_passesOwn hp (thn (gen_next rfl S (fun _ _ _ _ _ b hb => by simp at hb) (I1.ok.hd hc) hr.depth L.inv L.cp L.ff L.sub L.hi L.gt L.kp L.at_ L.rdy) fun r s4 hq => ?_)
  rcases hq with ⟨d, u, σ4, Fw, Hw, F4, H4, y, gs4, ed, rfl, T⟩ | ⟨ei, rfl, σ4, Fw, Hw, F4, H4, I4, ⟨ρ4, p4, st4, e4⟩, gr⟩
  · obtain ⟨ρ4, p4, st4, e4⟩ := T.cp
    have hlt := (List.getElem?_eq_some_iff.mp ed).1
    rw [drop_cons ed] at e4
    obtain ⟨ρ5, e5, e6⟩ := bind_some e4
    obtain ⟨⟨f7, ρ7⟩, e7, e8⟩ := bind_some e6
    refine wpAny_passesOwn hp (step_obj T.gt.2 ?_)
    have Ip := gt_pin S T.inv T.gt
    have st5 := st4.grow T.gr
    have p5 := p4.trans (T.gr.stp σ4 ρ4)
    -- the target
    refine wpAny_passesOwn hp (keep_run T.inv.bare (hx ▸ ht.run _ (wG s4 (s4.gens.map dead)) σ4 H4 y u (fun σ6 H6 => ∃ F6, Stp F σ ρ H F6 σ6 ρ5 H6 ∧ Dn.St (cxK C) F6 H6 σ6 ρ5 ∧ Same F4 F6) (inv_gens Ip (bare_dead T.inv.bare)) T.rel ⟨F4, ρ4, d, ρ5, st5, T.rp, e5, fun σ6 F6 H6 p6 st6 _ => ⟨F6, p5.trans p6, st6, p6.ff⟩⟩) fun _ s6 b6 q6 bb6 k6 => ?_)
    obtain ⟨σ6, H6, I6', F6, p6, st6, ff6⟩ := q6
    have bare6 := bb6 I6'.bare
    have I6 : Inv C (pins ++ pinsAt [sc.heap.objs.size, a] s4.heap) σ6 H6 s6 := inv_gens (s := wG s6 b6) I6' bare6
    -- the body
    have hbase : ∀ b, H6 b = none → H b = none := fun b hb => p6.none hb
    have hbq : tDS (cxK C) gb { nx := fun σ' H' => (f7 = .nx ∨ f7 = .cnt) ∧ ∃ F', Stp F σ ρ H F' σ' ρ7 H' ∧ Dn.St (cxK C) F' H' σ' ρ7 ∧ Same F6 F', ct := fun σ' H' => (f7 = .nx ∨ f7 = .cnt) ∧ ∃ F', Stp F σ ρ H F' σ' ρ7 H' ∧ Dn.St (cxK C) F' H' σ' ρ7 ∧ Same F6 F', bk := D.nx, rt := D.rt } σ6 H6 := by
      refine ⟨F6, ρ5, f7, ρ7, st6, e7, fun σ' F' H' p' st' => ?_⟩
      cases f7 with
      | nx => exact ⟨.inl rfl, F', p6.trans p', st', p'.ff⟩
      | cnt => exact ⟨.inr rfl, F', p6.trans p', st', p'.ff⟩
      | brk =>
        cases e8
        exact kk σ' F' H' (p6.trans p') st'
      | ret r =>
        cases e8
        exact kk σ' F' H' (p6.trans p') st'
      | rof r =>
        cases e8
        exact fl_base (kk σ' F' H' (p6.trans p') st') hbase
    refine wpAny_passesOwn hp (keep_run bare6 (hx ▸ hd.run _ (wG s6 (s6.gens.map dead)) σ6 H6 _ (inv_gens I6 (bare_dead bare6)) hbq) fun fw s7 b7 q7 bb7 k7 => ?_)
    have again : ∀ {σ7 : L2.St} {H7 : Hp}, Inv C (pins ++ pinsAt [sc.heap.objs.size, a] s4.heap) σ7 H7 (wG s7 b7) → ((f7 = .nx ∨ f7 = .cnt) ∧ ∃ F', Stp F σ ρ H F' σ7 ρ7 H7 ∧ Dn.St (cxK C) F' H7 σ7 ρ7 ∧ Same F6 F') →
        ∃ m, m < ds.length - i ∧ ∃ i σi Fi Hi Fs ss gst, m = ds.length - i ∧ Lp C pins N qual scope f cd sc H1 a g go Cp ds i s7 σi Fi Hi Fs ss gst := fun {σ7 H7} I7' ⟨hf, F7, p7, st7, ff7⟩ => by
      have I7 : Inv C (pins ++ pinsAt [sc.heap.objs.size, a] s4.heap) σ7 H7 s7 := inv_gens (s := wG s7 b7) I7' (bb7 I7'.bare)
      obtain ⟨gt7, kp7⟩ := gt_pins T.gt I7
      refine ⟨ds.length - (i + 1), by omega, i + 1, σ7, F7, H7, F4, s4, gs4, rfl, hlt, I7.unpinned, ⟨ρ7, p7, st7, ?_⟩, ff6.trans ff7, st7.sub, k7 _ _ (k6 _ _ T.at_ T.sl) T.sl, gt7, kp7, T.rdy⟩
      rcases hf with rfl | rfl
      · exact e8
      · exact e8
    cases fw with
    | next => obtain ⟨σ7, H7, I7, n7⟩ := q7; exact again I7 n7
    | cont => obtain ⟨σ7, H7, I7, n7⟩ := q7; exact again I7 n7
    | brk =>
      obtain ⟨σ7, H7, I7, q7⟩ := q7
      exact ⟨σ7, H7, (inv_gens (s := wG s7 b7) I7 (bb7 I7.bare)).unpinned, q7⟩
    | ret v =>
      obtain ⟨x7, σ7, H7, I7, r7, q7⟩ := q7
      exact ⟨x7, σ7, H7, (inv_gens (s := wG s7 b7) I7 (bb7 I7.bare)).unpinned, r7, q7⟩
  · rw [ei, List.drop_length] at e4
    cases e4
    exact wpAny_passesOwn hp (wpAny_execs_nil ⟨σ4, H4, I4, kk σ4 F4 H4 (p4.trans (gr.stp σ4 _)) (st4.grow gr)⟩)
end
end Gz
set_option maxHeartbeats 2000000
/-! a list comprehension over a generator -/
namespace Gz
open PySem PySem.Spec PyProof.Rows L2 Dn GenW

section
variable {X : Cx} {pins : List (Addr × Obj)} {N ps : List Str} {qual : Str} {scope : Scope} {f : Addr} {cd : Value} {fd : FuncData} {gbody : List Stmt} {gd : Gd} {k : Nat} {x : Str} {e tg elt : Expr} {es ifs : List Expr} {p pos pos' cpos : Pos} {bs : Scope} {own : List (Str × Nat)} {gs : Md (List D)} {gt : D → Dn.Env → Option Dn.Env} {gc : Md Bool} {ge : Md D} {is : List Nat}
abbrev Blk (X : Cx) (s : Shared) (H : Hp) (bs : Scope) (C : Addr) (cl : List (Str × Addr)) (fp : List Addr) : Cx := X.blk s H bs (compEnvC bs cl C X.env) fp
theorem lcG_core {s : Shared} {σ : L2.St} {H : Hp} {Q : VK} {use : Option (Value → Sem Unit)} {Qf : Value → Shared → Prop} (hc : X.calm = true) (hN : X.N.Nodup) (I : Inv X pins σ H s) (hv : ∀ j ∈ is, j ∈ own.map (·.2))
    (G : GOk X.prog X.w X.K X.mg X.base N qual scope f cd k fd gbody ps gd) (hr : Room (k + 2) X.A) (hg : Gl X x) (hm : X.mg x = some (.ref f)) (hk : PySem.W.keepIn X.K (.ref f) = true) (hb : Binds X.K fd ps []) (ha : DA X (e :: es) gs) (hlen : ∀ ρ ds ρ', gs ρ = some (ds, ρ') → ds.length = ps.length)
    (ok : BlkOk X.N X.env.scope bs own) (nc : ∀ y ∈ bs.names, y.2 ≠ .cell)
    (ht : ∀ s H C cl fp, DG (Blk X s H bs C cl fp) tg is gt) (hi : ∀ s H C cl fp, PTs (Blk X s H bs C cl fp) ifs (tDT (cxK X) gc)) (he : ∀ s H C cl fp, DE (Blk X s H bs C cl fp) elt ge)
    (hdb : (x == ("__debug__" : Str)) = false) (hst : starEach (e :: es) X.env = (false, eval e X.env) :: starEach es X.env) (hpl : (backTo pos' (starEach es X.env)).any (·.1) = false) (hs : ∀ y, foldedSetIterable (.Call (.Name x p) (e :: es) [] pos') X.env y = pure y)
    (h : tF (cxK X) (gLc (own.map (·.2)) (gCallG (runG N.length gd) gs) gt gc ge) σ H Q)
    (hRR : ∀ D C s' m H', Inv X pins σ H' s' → Q (.ref D) H' → s'.heap.Ns C m → FpOk X pins H' C → compPost (model X.prog X.w) X.A X.xe use Qf (.ref D) C (.ok .next) s') :
    wpAny (model X.prog X.w) X.A (comprehension (.ListComp elt [⟨tg, .Call (.Name x p) (e :: es) [] pos', ifs, 0⟩] bs pos) bs X.env cpos (newList []) false (eval (.Call (.Name x p) (e :: es) [] pos') X.env) use) Qf X.xe s := by
  have hfree : ∀ y ∈ bs.names, y.2 = .free → ∃ c, X.env.cells.lookup y.1 = some c := fun y hy e => (ok.free y hy e).elim (fun z => I.ok.has _ (.inl z)) fun z => I.ok.has _ (.inr z)
  obtain ⟨F, ρ, d, ρ', st, eg, kk⟩ := h
  obtain ⟨⟨ds, ρ1⟩, e1, eg1⟩ := bind_some eg
  have eg1' : (if ds.length ≤ 16777216 ∧ (own.map (·.2)).all (notOwn ρ1) = true then (lcD (own.map (·.2)) gt gc ge ds (wipeE ρ1 (own.map (·.2)))).bind fun r => some (PyData.list r.1, backE ρ1 (own.map (·.2)) r.2) else none) = some (d, ρ') := eg1
  split at eg1'
  case isFalse => cases eg1'
  rename_i hl
  obtain ⟨⟨rs, ρe⟩, e2, eg2⟩ := bind_some eg1'
  have hd := (Prod.mk.inj (Option.some.inj eg2)).1
  have hρ := (Prod.mk.inj (Option.some.inj eg2)).2
  clear eg2 eg1' eg1 eg
  subst hd
  subst hρ
  refine wpAny_comprehension_free (use := use) rfl hs (closure_ok hfree) ok.kind (fun y hy e => by rw [ok.uniq y hy, e]) (thn (run_callG G (hr.mono (by omega)) hg hm hk hb ha hlen I st e1 hdb hst hpl) fun xv s1 hq => ?_)
  obtain ⟨F1, H1, sc, vs, args, a, g, go, ρG, rfl, p1, st1, I1, M, ra, eG⟩ := hq
  have I2 : Inv X pins σ H1 s1 := I1.call' (ch := []) M.os (Un.kept M.keep) (I1.hok.kept M.keep) M.bare fun b z => by simp at z
  refine wpAny_pyIter_gen (M.gen _ M.obj) ?_
  refine wpAny_newObj_type (newEnv_comp ?_) (by show 0 ≤ sizeLine; decide)
  generalize hD : s1.heap.objs.size = D
  have n1 : ∀ b, sc.heap.objs.size ≤ b → H1 b = none := fun b hb => I1.hok.fresh hb
  have scs1 : sc.heap.objs.size < s1.heap.objs.size := Nat.lt_trans M.lt M.lt'
  have hDn : H1 D = none := n1 D (by rw [← hD]; exact Nat.le_of_lt scs1)
  generalize hs3 : ({ s1 with heap := s1.heap.push { cls := .type "list", data := .seq ([] : List Value).toArray } } : Shared) = s3
  have h3 : s3.heap = s1.heap.push { cls := .type "list", data := .seq ([] : List Value).toArray } := by rw [← hs3]
  have I3 : Inv X pins σ (upd H1 D (.lst [])) s3 := by
    rw [← hs3]
    refine I2.laid (t' := s1.toks) (fun b o e => Heap.get?_push_of_some _ e) (Nat.le_of_eq hD) ⟨Nat.zero_le _, [], 0, .nil, ?_⟩
    rw [← hD]
    exact Heap.get?_push_size _ rfl
  have sz3 : s3.heap.objs.size = s1.heap.objs.size + 1 := by rw [h3, Heap.size_push]
  let fp : List Addr := List.range' sc.heap.objs.size (s1.heap.objs.size - sc.heap.objs.size)
  have mfp : ∀ b : Addr, b ∈ fp ↔ sc.heap.objs.size ≤ b ∧ b < s1.heap.objs.size := fun b => by
    show b ∈ List.range' _ _ ↔ _
    rw [List.mem_range'_1, Nat.add_sub_cancel' (Nat.le_of_lt scs1)]
  have f3 : ∀ b ∈ fp, FpOk X pins (upd H1 D (.lst [])) b ∧ b < s3.heap.objs.size := fun b hb => by
    obtain ⟨b1, b2⟩ := (mfp b).mp hb
    have bD : b ≠ D := by rw [← hD]; exact Nat.ne_of_lt b2
    exact ⟨I1.fpOk b1 ((upd_ne bD).trans (n1 b b1)), by rw [sz3]; exact Nat.lt_succ_of_lt b2⟩
  have I4 := block_start I3 ok hN f3
  generalize hcl : cellsFrom (s3.heap.objs.size + 1) bs.names (cloFrom X.env.cells bs.names []) = cl at I4 ⊢
  have pt := ht s3 (upd H1 D (.lst [])) s3.heap.objs.size cl fp
  have pi := hi s3 (upd H1 D (.lst [])) s3.heap.objs.size cl fp
  have pe := he s3 (upd H1 D (.lst [])) s3.heap.objs.size cl fp
  show codeAny _ _ (.compStart (.ListComp elt [⟨tg, .Call (.Name x p) (e :: es) [] pos', ifs, 0⟩] bs pos) 0 (.ref a) (.ref D) (compEnvC bs cl s3.heap.objs.size X.env)) (compPost (model X.prog X.w) X.A X.xe use Qf (.ref D) s3.heap.objs.size) { s3 with heap := pushCells (s3.heap.push { cls := .type "dict", data := .dict #[] }) bs.names }
  generalize hce : compEnvC bs cl s3.heap.objs.size X.env = ce at I4 ⊢
  have cL : ce.locals = s3.heap.objs.size := by subst hce; rfl
  have cC : ∀ y c, ce.cells.lookup y = some c → c < sc.heap.objs.size := fun y c q => by
    subst hce
    have q' : cl.lookup y = some c := q
    rw [← hcl, cells_none nc] at q'
    rcases cloFrom_mem (PySem.mem_of_lookup q') with z | ⟨z1, z2⟩
    · simp at z
    · obtain ⟨c', hc'⟩ := hfree _ z1 rfl
      have hc2 : X.env.cells.lookup y = some c' := hc'
      rw [hc2] at z2
      obtain ⟨v, hv⟩ := I1.cell y c' hc2
      rw [z2]
      exact hv.lt
  generalize hs4 : ({ s3 with heap := pushCells (s3.heap.push { cls := .type "dict", data := .dict #[] }) bs.names } : Shared) = s4 at I4 ⊢
  have k4 : ∀ b o, s1.heap.get? b = some o → s4.heap.get? b = some o := fun b o q => by
    rw [← hs4]
    refine pushCells_keeps _ _ _ _ (Heap.get?_push_of_some _ ?_)
    rw [h3]
    exact Heap.get?_push_of_some _ q
  have g4 : s4.gens = s1.gens := by rw [← hs4, ← hs3]
  generalize hCb : X.blk s3 (upd H1 D (.lst [])) bs ce fp = Cb at I4
  have eb : Blk X s3 (upd H1 D (.lst [])) bs s3.heap.objs.size cl fp = Cb := by rw [← hCb, ← hce]
  rw [eb] at pt pi pe
  have bA : Cb.A = X.A := by rw [← hCb]
  have bstk : Cb.stack = X.stack := by rw [← hCb]
  have S : Sta Cb [] sc.heap.objs.size a [D] := by
    subst hCb
    refine ⟨cC, fun b hb => ?_, fun b hb hT => ?_, fun p hp => absurd (show p ∈ ([] : List (Addr × Obj)) ++ [] from hp) (by simp), ⟨?_, ?_⟩, Nat.le_trans I1.ok.bsz I1.sz, fun b hb z => ?_⟩
    · obtain ⟨_, o, e, _⟩ := I1.stack.mem hb
      exact Heap.lt_size e
    · by_cases h1 : b < s1.heap.objs.size
      · exact .inl ((mfp b).mpr ⟨hb, h1⟩)
      · refine .inr ?_
        show s3.heap.objs.size ≤ b
        have : b ≠ D := fun z => hT (by simp [z])
        rw [sz3]
        rw [← hD] at this
        exact Nat.succ_le_of_lt (Nat.lt_of_le_of_ne (Nat.le_of_not_lt h1) (Ne.symm this))
    · show ce.locals ≠ _
      rw [cL, sz3]
      exact Nat.ne_of_gt (Nat.lt_succ_of_lt scs1)
    · show ce.locals ≠ _
      rw [cL, sz3]
      exact Nat.ne_of_gt (Nat.lt_succ_of_lt M.lt')
    · have z' : b ∈ frs X.stack := z
      obtain ⟨_, o, e, _⟩ := I1.stack.mem z'
      have h1 := Heap.lt_size e
      rcases List.mem_cons.mp hb with q | q
      · rw [q] at h1; exact absurd h1 (Nat.lt_irrefl _)
      · rw [List.mem_singleton.mp q] at h1; exact absurd (Nat.lt_trans h1 M.lt) (Nat.lt_irrefl _)
  have MI := M.inv X.A.in1 (hr.in1.mono (by omega)) I1.ok.frames
  have gt0 : Gt sc.heap.objs.size a g (upd H1 D (.lst [])) s4 := by
    have nD : ∀ b, b < s1.heap.objs.size → b ≠ D := fun b hb z => by rw [z, ← hD] at hb; exact absurd hb (Nat.lt_irrefl _)
    refine ⟨fun b hb => ?_, (M.gen _ M.obj).keeps k4⟩
    rcases List.mem_cons.mp hb with z | z
    · subst z
      obtain ⟨o, e, d⟩ := loc_obj MI
      exact ⟨(upd_ne (nD _ scs1)).trans (n1 _ (Nat.le_refl _)), o, k4 _ _ e, d⟩
    · rw [List.mem_singleton.mp z]
      have q := MI.pin (a, go) (by simp)
      exact ⟨(upd_ne (nD _ M.lt')).trans q.2.1, go, k4 _ _ M.obj, q.2.2.2.2⟩
  have hnv : ∀ i dd, ρ1[i]? = some (some (.own true dd)) → i ∉ own.map (·.2) := fun i dd e hi => not_own hl.2 hi e
  let Cp : Nat → Hp → Hp → L2.St → Prop := fun i Fi Hi σi => σi = wipe σ (own.map (·.2)) ∧ ∃ ρi acc as rr, Stp F1 σ ρ1 H1 Fi (wipe σ (own.map (·.2))) ρi Hi ∧ Dn.St (cxK X) Fi Hi (wipe σ (own.map (·.2))) ρi ∧ lcD (own.map (·.2)) gt gc ge (ds.drop i) ρi = some (rr, ρe) ∧ as ++ rr = rs ∧ (Fi D = none ∧ ¬ Owns (wipe σ (own.map (·.2))) ρi D) ∧ Hi D = some (.lst acc) ∧ RpAll (cxK X) Fi acc as ∧ as.length ≤ i
  have hT : ∀ i F H σ, Cp i F H σ → ∀ b ∈ [D], H b ≠ none := fun i F H σ ⟨_, _, _, _, _, _, _, _, _, _, q, _⟩ b hb => by
    rw [List.mem_singleton.mp hb, q]
    intro z
    cases z
  have cp0 : Cp 0 F1 (upd H1 D (.lst [])) (wipe σ (own.map (·.2))) := by
    have hw := st_wipe st1 (own.map (·.2))
    exact ⟨rfl, wipeE ρ1 (own.map (·.2)), [], [], rs, (stp_wipe Stp.refl hnv).trans ((Grow.own st1.sub hDn).stp _ _), hw.grow (Grow.own st1.sub hDn), by simpa using e2, by simp, ⟨none_sub st1.sub hDn, not_owns hw hDn⟩, upd_same, .nil, by simp⟩
  have GB : GOk Cb.prog Cb.w Cb.K Cb.mg Cb.base N qual scope f cd k fd gbody ps gd := by rw [← hCb]; exact G
  have MB : Made Cb.prog Cb.w Cb.K Cb.mg Cb.base N qual scope f cd (k + 1) gbody Cb.stack sc H1 vs a g go s1 := by rw [← hCb]; exact M
  have raB : RpAll (cxK Cb) F1 vs args := by rw [← hCb]; exact ra
  have R0 := rdy_fresh (C := Cb) (W := Wc Cb [] sc.heap.objs.size g Cp) GB (by rw [bA]; exact hr) I4.ok.frames MB S.bz raB eG fun i F H ip s w => w.1
  have prog : Cb.prog = X.prog ∧ Cb.w = X.w ∧ Cb.K = X.K ∧ Cb.calm = X.calm := by rw [← hCb]; exact ⟨rfl, rfl, rfl, rfl⟩
  have loop : codeAny (model X.prog X.w) X.A (.compLoop (.ListComp elt [⟨tg, .Call (.Name x p) (e :: es) [] pos', ifs, 0⟩] bs pos) 0 (.ref a) (.ref D) ce) (compPost (model X.prog X.w) X.A X.xe use Qf (.ref D) s3.heap.objs.size) s4 := by
    refine compLoop_any (fun m s' => ∃ i σi Fi Hi Fs ss gst, m = ds.length - i ∧ Lp Cb [] N qual scope f cd sc H1 a g go Cp ds i s' σi Fi Hi Fs ss gst) ?_ ds.length ⟨0, _, F1, upd H1 D (.lst []), F1, s1, _, by simp, Nat.zero_le _, I4, cp0, Same.refl _, cp0.2.choose_spec.choose_spec.choose_spec.choose_spec.2.1.sub, by rw [g4]; exact M.fresh, gt0, fun b _ o e => k4 b o e, R0⟩
    rintro m s5 ⟨i, σ5, F5, H5, Fs, ss, gst, rfl, L⟩
    have gn := gen_next (E := fun _ _ => False) rfl S hT (I4.ok.hd (by rw [prog.2.2.2]; exact hc)) (by rw [bA]; exact hr.depth) L.inv L.cp L.ff L.sub L.hi L.gt L.kp L.at_ L.rdy
    rw [bA, prog.1, prog.2.1] at gn
    refine thnF gn fun r s6 hq => ?_
    rcases hq with ⟨dd, u, σ6, Fw, Hw, F6, H6, y, gs6, ed, rfl, T⟩ | ⟨ei, rfl, σ6, Fw, Hw, F6, H6, I6, ⟨rfl, ρi, acc, as, rr, pi0, si, ei0, er, ⟨fD, nD⟩, hDi, rA, la⟩, gr⟩
    · obtain ⟨rfl, ρi, acc, as, rr, pi0, si, ei0, er, ⟨fD, nD⟩, hDi, rA, la⟩ := T.cp
      have hlt := (List.getElem?_eq_some_iff.mp ed).1
      rw [drop_cons ed] at ei0
      obtain ⟨ρ2, e3, ei1⟩ := bind_some ei0
      obtain ⟨⟨b, ρ3⟩, e4, ei2⟩ := bind_some ei1
      refine step_obj T.gt.2 ?_
      have Ip := gt_pin S T.inv T.gt
      have st6 := si.grow T.gr
      have q6 := T.gr.stp (wipe σ (own.map (·.2))) ρi
      have rel6 := T.rel
      have rp6 : Rp (cxK X) F6 y dd := by have := T.rp; rw [← hCb] at this; exact this
      have ptr := pt.run _ (wG s6 (s6.gens.map dead)) (wipe σ (own.map (·.2))) H6 y u (fun σ7 H7 => wipe σ7 (own.map (·.2)) = wipe σ (own.map (·.2)) ∧ ∃ F7, Stp Fw (wipe σ (own.map (·.2))) ρi Hw F7 σ7 ρ2 H7 ∧ Dn.St (cxK X) F7 H7 σ7 ρ2 ∧ Same F6 F7) (inv_gens Ip (bare_dead T.inv.bare)) rel6
        (by
          rw [← hCb]
          exact ⟨F6, ρi, dd, ρ2, st6, rp6, e3, fun σ7 F7 H7 p7 st7 w7 => ⟨wipe_eq w7.2 hv (w7.1.trans (wipe_length σ _)), F7, q6.trans p7, st7, p7.ff⟩⟩)
      rw [prog.1, prog.2.1, bA, show Cb.env = ce from by rw [← hCb], show Cb.xe = fun _ _ => False from by rw [← hCb]] at ptr
      refine keep_run T.inv.bare ptr fun _ s7 b7 q7 bb7 k7 => ?_
      obtain ⟨σ7, H7, I7', ew, F7, p7, st7, ff7⟩ := q7
      have bare7 := bb7 I7'.bare
      have I7 : Inv Cb ([] ++ pinsAt [sc.heap.objs.size, a] s6.heap) σ7 H7 s7 := inv_gens (s := wG s7 b7) I7' bare7
      have pir := pi.run _ (wG s7 (s7.gens.map dead)) σ7 H7 (fun t H8 => t = b ∧ ∃ F8, Stp Fw (wipe σ (own.map (·.2))) ρi Hw F8 σ7 ρ3 H8 ∧ Dn.St (cxK X) F8 H8 σ7 ρ3 ∧ Same F6 F8) (inv_gens I7 (bare_dead bare7)) ⟨F7, ρ2, b, ρ3, st7, e4, fun F8 H8 p8 st8 => ⟨rfl, F8, p7.trans p8, st8, ff7.trans p8.ff⟩⟩
      rw [prog.1, prog.2.1, bA, show Cb.env = ce from by rw [← hCb], show Cb.xe = fun _ _ => False from by rw [← hCb]] at pir
      refine keep_run bare7 pir fun t s8 b8 q8 bb8 k8 => ?_
      obtain ⟨H8, I8', rfl, F8, p8, st8, ff8⟩ := q8
      have bare8 := bb8 I8'.bare
      have I8 : Inv Cb ([] ++ pinsAt [sc.heap.objs.size, a] s6.heap) σ7 H8 s8 := inv_gens (s := wG s8 b8) I8' bare8
      -- a turn's end
      have fin : ∀ (F9 : Hp) (ρ9 : Dn.Env) (H9 : Hp), Stp Fw (wipe σ (own.map (·.2))) ρi Hw F9 σ7 ρ9 H9 → Dn.St (cxK X) F9 H9 σ7 ρ9 → H9 D = some (.lst acc) ∧ F9 D = none ∧ ¬ Owns (wipe σ (own.map (·.2))) (wipeE ρ9 (own.map (·.2))) D ∧ Stp F1 σ ρ1 H1 F9 (wipe σ (own.map (·.2))) (wipeE ρ9 (own.map (·.2))) H9 ∧ Dn.St (cxK X) F9 H9 (wipe σ (own.map (·.2))) (wipeE ρ9 (own.map (·.2))) := fun F9 ρ9 H9 q s9 => by
        obtain ⟨h1, h2⟩ := q.keep D _ hDi nD
        have h3 := stp_wipe (pi0.trans q) hnv
        have h4 := st_wipe s9 (own.map (·.2))
        rw [ew] at h3 h4
        refine ⟨h1, h2.trans fD, fun z => ?_, h3, h4⟩
        obtain ⟨j, ff, dj, z1, z2⟩ := z
        obtain ⟨z3, z4⟩ := wipeE_cell z1
        rw [← ew, wipe_out' z4] at z2
        rcases q.fresh D ⟨j, ff, dj, z3, z2⟩ with y | y
        · exact nD y
        · rw [hDi] at y; cases y
      have next : ∀ {s9 : Shared} {F9 H9 : Hp} {acc9 : List V} {as9 rr9 : List PyData} {ρ9 : Dn.Env}, Inv Cb ([] ++ pinsAt [sc.heap.objs.size, a] s6.heap) σ7 H9 s9 → Kept s6.gens s9.gens → Same F6 F9 → Stp F1 σ ρ1 H1 F9 (wipe σ (own.map (·.2))) ρ9 H9 → Dn.St (cxK X) F9 H9 (wipe σ (own.map (·.2))) ρ9 → lcD (own.map (·.2)) gt gc ge (ds.drop (i + 1)) ρ9 = some (rr9, ρe) → as9 ++ rr9 = rs → (F9 D = none ∧ ¬ Owns (wipe σ (own.map (·.2))) ρ9 D) → H9 D = some (.lst acc9) → RpAll (cxK X) F9 acc9 as9 → as9.length ≤ i + 1 →
          ∃ m, m < ds.length - i ∧ ∃ i σi Fi Hi Fs ss gst, m = ds.length - i ∧ Lp Cb [] N qual scope f cd sc H1 a g go Cp ds i s9 σi Fi Hi Fs ss gst := fun {s9 F9 H9 acc9 as9 rr9 ρ9} I9 k9 ff9 c1 c2 c3 c4 c5 c6 c7 c8 => by
        obtain ⟨gt9, kp9⟩ := gt_pins T.gt I9
        have I10 : Inv Cb [] (wipe σ (own.map (·.2))) H9 s9 := I9.unpinned.weak (by rw [← ew, wipe_length]) fun j v q => by
          rw [← ew] at q
          exact (wipe_some q).1
        exact ⟨ds.length - (i + 1), by omega, i + 1, _, F9, H9, F6, s6, gs6, rfl, hlt, I10, ⟨rfl, ρ9, acc9, as9, rr9, c1, c2, c3, c4, c5, c6, c7, c8⟩, ff9, c2.sub, k9 _ _ T.at_ T.sl, gt9, kp9, T.rdy⟩
      cases t with
      | false =>
        rw [if_neg Bool.false_ne_true] at ei2
        simp only [Bool.false_eq_true, if_false]
        obtain ⟨h1, h2, h3, h4, h5⟩ := fin F8 ρ3 H8 p8 st8
        exact next I8 (k7.trans k8) ff8 h4 h5 ei2 er ⟨h2, h3⟩ h1 (dpAll_mono (p8.ff) _ _ rA) (by omega)
      | true =>
        rw [if_pos rfl] at ei2
        simp only [if_true]
        obtain ⟨⟨z, ρ4⟩, e5, ei3⟩ := bind_some ei2
        obtain ⟨⟨r, ρ5⟩, e6, ei4⟩ := bind_some ei3
        have hr1 := (Prod.mk.inj (Option.some.inj ei4)).1
        have hr2 := (Prod.mk.inj (Option.some.inj ei4)).2
        subst hr1
        subst hr2
        have per := pe.run _ (wG s8 (s8.gens.map dead)) σ7 H8 (fun v H9 => ∃ F9, Stp Fw (wipe σ (own.map (·.2))) ρi Hw F9 σ7 ρ4 H9 ∧ Dn.St (cxK X) F9 H9 σ7 ρ4 ∧ Same F6 F9 ∧ Rp (cxK X) F9 v z) (inv_gens I8 (bare_dead bare8)) (by
          rw [← hCb]
          exact ⟨F8, ρ3, z, ρ4, st8, e5, fun v F9 H9 p9 st9 r9 => ⟨F9, p8.trans p9, st9, ff8.trans p9.ff, r9⟩⟩)
        rw [prog.1, prog.2.1, bA, show Cb.env = ce from by rw [← hCb], show Cb.xe = fun _ _ => False from by rw [← hCb]] at per
        refine keep_run bare8 per fun zv s9 b9 q9 bb9 k9 => ?_
        obtain ⟨v9, H9, I9', rv9, F9, p9, st9, ff9, rz⟩ := q9
        have bare9 := bb9 I9'.bare
        have I9 : Inv Cb ([] ++ pinsAt [sc.heap.objs.size, a] s6.heap) σ7 H9 s9 := inv_gens (s := wG s9 b9) I9' bare9
        obtain ⟨h1, h2, h3, h4, h5⟩ := fin F9 ρ4 H9 p9 st9
        have hz : acc.length < sizeLine := by rw [line_eq, da_len rA]; omega
        have app := app_ok (E := fun _ _ => False) (Q := fun r s' => Inv Cb ([] ++ pinsAt [sc.heap.objs.size, a] s6.heap) σ7 (upd H9 D (.lst (acc ++ [v9]))) s') (inv_gens I9 (bare_dead bare9)) h1 hz rv9 fun s' I' => I'
        rw [prog.1, prog.2.1, bA] at app
        refine keep_run bare9 app fun _ s10 b10 q10 bb10 k10 => ?_
        have I10 : Inv Cb ([] ++ pinsAt [sc.heap.objs.size, a] s6.heap) σ7 (upd H9 D (.lst (acc ++ [v9]))) s10 := inv_gens (s := wG s10 b10) q10 (bb10 q10.bare)
        exact next I10 (((k7.trans k8).trans k9).trans k10) ff9 (stp_side h4 hDn) (st_side h5 h2 h3) e6 (by rw [List.append_assoc]; exact er) ⟨h2, h3⟩ upd_same (da_app (dpAll_mono p9.ff _ _ rA) (.cons rz .nil)) (by rw [List.length_append]; simpa using la)
    · rw [ei, List.drop_length] at ei0
      have hrr := (Prod.mk.inj (Option.some.inj ei0)).1
      have hre := (Prod.mk.inj (Option.some.inj ei0)).2
      subst hrr
      rw [List.append_nil] at er
      subst er
      subst hre
      have pi1 := pi0.trans (gr.stp _ ρi)
      have si1 := si.grow gr
      obtain ⟨pb, sb⟩ := stp_back pi1 (by rw [si.len, wipe_length, st1.len]) hl.2
      have hq := kk D F6 H6 (p1.trans pb) (st_back st1 si1 pi1.ff hl.2) ⟨(gr.new D _ hDi).trans fD, .inl ⟨acc, as, rfl, gr.hh D _ hDi, dpAll_mono gr.ff _ _ rA⟩⟩ (fun z => nD (sb D z)) (p1.none hDn)
      have I6b : Inv (X.blk s3 (upd H1 D (.lst [])) bs ce fp) [] (wipe σ (own.map (·.2))) H6 s6 := by rw [hCb]; exact I6
      have I7 : Inv X pins σ H6 s6 := I3.call' (ch := fp) I6b.os I6b.base I6b.hok I6b.bare fun b hb => ⟨(f3 b hb).1.2.2.2.1, (f3 b hb).1.2.1, (f3 b hb).1.2.2.2.2.1, (f3 b hb).1.2.2.2.2.2⟩
      have nC : H6 s3.heap.objs.size = none := by
        have z : H6 ce.locals = none := I6b.free
        rw [cL] at z
        exact z
      obtain ⟨m, hn, _⟩ := I6b.loc
      have hn : s6.heap.Ns ce.locals m := hn
      rw [cL] at hn
      exact hRR D s3.heap.objs.size s6 m H6 I7 hq hn (I3.fpOk (Nat.le_refl _) nC)
  exact codeAny_compStart_list loop (wpAny_pyIter_gen ((M.gen _ M.obj).keeps k4) loop)
end
end Gz
set_option maxHeartbeats 2000000
/-! generators: short words for the printer -/
namespace Gz
open PySem PySem.Spec PyProof.Rows L2 Dn GenW

theorem gok {P : Program} {w : World} {K : PySem.W.Frag} {mg : Str → Option Value} {base : Heap} {k : Nat} {x qual : Str} {st : Stmt} {f : Addr} {fd : FuncData} {N ps : List Str} {gd : Gd} (F : Fun K x qual st f fd) (S : GScope N ps (defScope st)) (fl : ∀ y ∈ (defScope st).names, y.2 ≠ .cell)
    (hbody : ∀ (cd : Value) (B : Around) (outer : List PySem.Env) (s : Shared) (H : Hp) (a : Addr) (go : Obj), Room k (B.deeper (envOfC qual (defScope st) s.heap.objs.size f cd)) → GSs (gX P w K mg base N qual (defScope st) f cd B outer s H a go) s.heap.objs.size (defBody st) gd) :
    ∃ cd, GOk P w K mg base N qual (defScope st) f cd k fd (defBody st) ps gd := by
  obtain ⟨oc, od, kV, doc, pm, an, cdv, ct, osl, rfl, lk, hcd⟩ := F.ex
  exact ⟨cdv, gdef_of lk hcd S fl, fun B outer s H a go hr => hbody cdv B outer s H a go hr⟩
section
variable {X : Cx} {N ps : List Str} {qual : Str} {scope : Scope} {f : Addr} {fd : FuncData} {gbody : List Stmt} {gd : Gd} {k : Nat} {x : Str} {e tg elt : Expr} {es ifs : List Expr} {p pos pos' cpos spos : Pos} {bs : Scope} {own : List (Str × Nat)} {gs : Md (List D)} {gt : D → Dn.Env → Option Dn.Env} {gc : Md Bool} {ge : Md D} {is : List Nat}
theorem dg_for {gb : Sd} {body : List Stmt} (hx : X.xe = fun _ _ => False) (hp : PassesOwn (model X.prog X.w) X.A X.env X.xe) (hc : X.calm = true) (G : ∃ cd, GOk X.prog X.w X.K X.mg X.base N qual scope f cd k fd gbody ps gd) (hr : Room (k + 2) X.A) (hg : Gl X x) (hm : X.mg x = some (.ref f)) (hk : PySem.W.keepIn X.K (.ref f) = true) (hb : Binds X.K fd ps [])
    (ha : DA X (e :: es) gs) (hlen : ∀ ρ ds ρ', gs ρ = some (ds, ρ') → ds.length = ps.length) (ht : DG X tg is gt) (hd : DSs X body gb)
    (hdb : (x == ("__debug__" : Str)) = false := by decide) (he : starEach (e :: es) X.env = (false, eval e X.env) :: starEach es X.env := by rfl) (hpl : (backTo pos' (starEach es X.env)).any (·.1) = false := by rfl) (hs : ∀ y, foldedSetIterable (.Call (.Name x p) (e :: es) [] pos') X.env y = pure y := by intro _; rfl) :
    DS X (.For tg (.Call (.Name x p) (e :: es) [] pos') body [] pos) (sFor (gCallG (runG N.length gd) gs) gt gb) := by
  obtain ⟨cd, G⟩ := G
  exact ds_forG hx hp hc G hr hg hm hk hb ha hlen ht hd hdb he hpl hs
theorem dg_lc (hc : X.calm = true) (hN : X.N.Nodup) (G : ∃ cd, GOk X.prog X.w X.K X.mg X.base N qual scope f cd k fd gbody ps gd) (hr : Room (k + 2) X.A) (hg : Gl X x) (hm : X.mg x = some (.ref f)) (hk : PySem.W.keepIn X.K (.ref f) = true) (hb : Binds X.K fd ps []) (ha : DA X (e :: es) gs) (hlen : ∀ ρ ds ρ', gs ρ = some (ds, ρ') → ds.length = ps.length)
    (ok : BlkOk X.N X.env.scope bs own) (nc : ∀ y ∈ bs.names, y.2 ≠ .cell)
    (ht : ∀ s H C cl fp, DG (Blk X s H bs C cl fp) tg is gt) (hi : ∀ s H C cl fp, PTs (Blk X s H bs C cl fp) ifs (tDT (cxK X) gc)) (he : ∀ s H C cl fp, DE (Blk X s H bs C cl fp) elt ge) (hv : ∀ j ∈ is, j ∈ own.map (·.2) := by decide)
    (hdb : (x == ("__debug__" : Str)) = false := by decide) (hst : starEach (e :: es) X.env = (false, eval e X.env) :: starEach es X.env := by rfl) (hpl : (backTo pos' (starEach es X.env)).any (·.1) = false := by rfl) (hs : ∀ y, foldedSetIterable (.Call (.Name x p) (e :: es) [] pos') X.env y = pure y := by intro _; rfl) :
    DF X (.ListComp elt [⟨tg, .Call (.Name x p) (e :: es) [] pos', ifs, 0⟩] bs pos) (gLc (own.map (·.2)) (gCallG (runG N.length gd) gs) gt gc ge) := by
  obtain ⟨cd, G⟩ := G
  refine ⟨fun pins s σ H Q I h => ?_⟩
  rw [eval_ListComp]
  refine lcG_core hc hN I hv G hr hg hm hk hb ha hlen ok nc ht hi he hdb hst hpl hs h fun D C s' m H' I' q hn fo => ⟨m, hn, fun h2 sb => ?_⟩
  obtain ⟨f0, f1, f2, f3, f4, f5⟩ := fo
  exact ⟨.ref D, H', I'.turned (t' := s'.toks) (fun b o hb e => (sb.2 b hb).trans e) f0 f1 f3 f4 f5, rfl, q⟩
/-- y = [.. for .. in a generator] -/
theorem dg_lcO {i : Nat} {y : Str} {py : Pos} (hc : X.calm = true) (hN : X.N.Nodup) (hy : X.N[i]? = some y) (hyl : X.env.scope.names.lookup y = some .local) (hsw : swapsWith (.ListComp elt [⟨tg, .Call (.Name x p) (e :: es) [] pos', ifs, 0⟩] bs pos) (some (.Name y py)) spos.line X.env = pure true)
    (G : ∃ cd, GOk X.prog X.w X.K X.mg X.base N qual scope f cd k fd gbody ps gd) (hr : Room (k + 2) X.A) (hg : Gl X x) (hm : X.mg x = some (.ref f)) (hk : PySem.W.keepIn X.K (.ref f) = true) (hb : Binds X.K fd ps []) (ha : DA X (e :: es) gs) (hlen : ∀ ρ ds ρ', gs ρ = some (ds, ρ') → ds.length = ps.length)
    (ok : BlkOk X.N X.env.scope bs own) (nc : ∀ y ∈ bs.names, y.2 ≠ .cell)
    (ht : ∀ s H C cl fp, DG (Blk X s H bs C cl fp) tg is gt) (hi : ∀ s H C cl fp, PTs (Blk X s H bs C cl fp) ifs (tDT (cxK X) gc)) (he : ∀ s H C cl fp, DE (Blk X s H bs C cl fp) elt ge) (hv : ∀ j ∈ is, j ∈ own.map (·.2) := by decide)
    (hdb : (x == ("__debug__" : Str)) = false := by decide) (hst : starEach (e :: es) X.env = (false, eval e X.env) :: starEach es X.env := by rfl) (hpl : (backTo pos' (starEach es X.env)).any (·.1) = false := by rfl) (hs : ∀ y, foldedSetIterable (.Call (.Name x p) (e :: es) [] pos') X.env y = pure y := by intro _; rfl) :
    DS X (.Assign [.Name y py] (.ListComp elt [⟨tg, .Call (.Name x p) (e :: es) [] pos', ifs, 0⟩] bs pos) spos) (sOwn i (gLc (own.map (·.2)) (gCallG (runG N.length gd) gs) gt gc ge)) := by
  obtain ⟨cd, G⟩ := G
  refine ⟨fun pins s σ H E I h => ?_⟩
  obtain ⟨F, ρ, fl, ρ', st, eg, kk⟩ := h
  obtain ⟨⟨d, ρ1⟩, e1, eg1⟩ := bind_some eg
  obtain ⟨r, e2, eg2⟩ := bind_some eg1
  have hf := (Prod.mk.inj (Option.some.inj eg2)).1
  have hr2 := (Prod.mk.inj (Option.some.inj eg2)).2
  clear eg2 eg1 eg
  subst hf
  subst hr2
  have q : tF (cxK X) (gLc (own.map (·.2)) (gCallG (runG N.length gd) gs) gt gc ge) σ H fun v H1 => E.nx (σ.set i (some v)) H1 := ⟨F, ρ, d, ρ1, st, e1, fun a F1 H1 p1 s1 o no hn => kk _ F1 H1 (stp_set p1 e2 fun _ _ b _ z => by
      cases z
      exact hn) (st_set s1 e2 ⟨a, rfl, o⟩ fun f _ b z1 z => by
      cases z
      cases z1
      exact ⟨rfl, no⟩)⟩
  rw [exec_Assign_Name_used _ _ _ _ hsw]
  refine wpAny_bind (wpAny_standAt (wpAny_bind ?_))
  show wpAny _ X.A (do let _ ← comprehension (.ListComp elt [⟨tg, .Call (.Name x p) (e :: es) [] pos', ifs, 0⟩] bs pos) bs X.env (firstIterPos [⟨tg, .Call (.Name x p) (e :: es) [] pos', ifs, 0⟩] pos) (newList []) false (eval (.Call (.Name x p) (e :: es) [] pos') X.env) (some (assign (.Name y py) X.env))) _ _ s
  refine wpAny_bind (thn (lcG_core (Qf := fun _ s' => SP X pins E .next s') hc hN I hv G hr hg hm hk hb ha hlen ok nc ht hi he hdb hst hpl hs q fun L C s' m H' I' q hn fo => ?_) fun _ s' hq => wpAny_pure (wpAny_pure hq))
  show wpAny _ _ (assign (.Name y py) X.env (.ref L)) _ _ _
  refine wpAny_assign_Name (store_ok2 (v := V.ref L) I' hN hy (.inl hyl) rfl (fun s2 I2 ⟨a, sb, ha⟩ => ?_) (.inr hyl))
  obtain ⟨f0, f1, f2, f3, f4, f5⟩ := fo
  have nCa : C ≠ a := ha.elim (fun z => by rw [z]; exact f1) fun z e => f4 y a z e.symm
  refine ⟨m, hn.sameBut sb nCa, fun h3 sb3 => ?_⟩
  exact ⟨_, H', I2.turned (t' := s2.toks) (fun b o hb e => (sb3.2 b hb).trans e) f0 f1 f3 f4 f5, q⟩
end
end Gz
set_option maxHeartbeats 4000000
/-! lists turned round in place; groups whose key has no name -/
namespace Dn
open PySem PySem.Spec PyProof.Rows L2 DnSo
section
variable {X : Cx} {pos : Pos}
def sRevO (i : Nat) : Sd := fun ρ => match ρ[i]? with
  | some (some (.own b (.list ds))) => some (.nx, ρ.set i (some (.own b (.list ds.reverse))))
  | _ => none
theorem ds_revO (i : Nat) {ce : Expr} (he : PE X ce (tBM0 (cxK X) "list" rReverse (tVar i))) (hs : swapsWith ce none pos.line X.env = pure false := by rfl) : DS X (.Expr ce pos) (sRevO i) :=
  ps_imp (ps_expr he hs) fun E σ H q => by
    obtain ⟨F, ρ, f, ρ', s, eg, k⟩ := q
    unfold sRevO at eg
    split at eg
    · rename_i b0 d0 h0
      cases eg
      obtain ⟨a, ea, o0, _⟩ := st_owned s h0
      obtain ⟨f1, xs0, hx0, rx⟩ := own_lst o0
      refine ⟨.ref a, ea, .inl ⟨rfl, xs0, SqL.of hx0⟩, ?_⟩
      refine ⟨a, xs0, rfl, rfl, hx0, ?_⟩
      obtain ⟨o2, sh, kp⟩ := own_write s.sub f1 hx0 (da_rev rx)
      obtain ⟨s2, p2⟩ := st_own_set s h0 ea (Same.refl _) sh kp o2
      exact k σ F _ p2 s2
    · cases eg
def grpD1 (gt : D → Env → Option Env) (gk gx : Md D) : List D → List (D × D) → Env → Option (List (D × D) × Env)
  | [], es, ρ => some (es, ρ)
  | d :: ds, es, ρ => (gt d ρ).bind fun ρ1 => (gk ρ1).bind fun q1 => (gx q1.2).bind fun q2 =>
      if keyTup q1.1 = true ∧ (nkD q1.1).isSome = true ∧ es.length < 16777216 ∧ lenG es q1.1 < 16777216 then grpD1 gt gk gx ds (appG es q1.1 q2.1) q2.2 else none
def sGrp1 (i : Nat) (gi : Md (List D)) (gt : D → Env → Option Env) (gk gx : Md D) : Sd := fun ρ => (gi ρ).bind fun q => if emptyOwn q.2[i]? = true then
    (grpD1 gt gk gx q.1 [] (q.2.set i none)).bind fun r => (setC i (.val (.dict r.1)) r.2).bind fun ρ' => some (.nx, ρ') else none
def tTurn1 (X : Cx) (i : Nat) (gk gx : Md D) : TS := tSeq (tDrop (tBM (cxK X) "list" rAppend (tMN X (rSetdN X) i (tCons (tD (cxK X) gk) (tCons (tF (cxK X) (gApp mkLst gNil)) tNil))) (tCons (tD (cxK X) gx) tNil))) tNext
theorem turn_ok1 {i : Nat} {gk gx : Md D} {E : Ends} {F H : Hp} {σ : L2.St} {ρ : Env} {q1 q2 : D × Env} {a : Addr} {xs : List (NestedKey × Addr × V)} {es : List (D × D)} {las : List Addr} {Fs : Hp} {σs : L2.St} {ρs : Env} {Hs : Hp}
    (s : St (cxK X) F H σ ρ) (g : Gh (cxK X) F H σ ρ Hs i a xs es las) (pp : Stp Fs σs ρs Hs F σ ρ H) (oa : Owns σs ρs a)
    (e1 : gk ρ = some q1) (e2 : gx q1.2 = some q2) (hc : keyTup q1.1 = true ∧ (nkD q1.1).isSome = true ∧ es.length < 16777216 ∧ lenG es q1.1 < 16777216)
    (k : ∀ F' σ' H' xs' las', Same F F' → Stp Fs σs ρs Hs F' σ' q2.2 H' → St (cxK X) F' H' σ' q2.2 → Gh (cxK X) F' H' σ' q2.2 Hs i a xs' (appG es q1.1 q2.1) las' → E.nx σ' H') : tTurn1 X i gk gx E σ H := by
  obtain ⟨kk, hkk⟩ := Option.isSome_iff_exists.mp hc.2.1
  show tBM (cxK X) "list" rAppend (tMN X (rSetdN X) i (tCons (tD (cxK X) gk) (tCons (tF (cxK X) (gApp mkLst gNil)) tNil))) (tCons (tD (cxK X) gx) tNil) σ H fun _ H' => E.nx σ H'
  have fr1 : ∀ b ∈ las, F b = none := fun b hb => (g.rg.free b hb).1
  refine ⟨a, ext F H las, xs, es, g.slot, ext_sub s.sub, g.ha, g.rg.rpN fr1 fun _ h => h, F, ρ, q1.1, q1.2, s, e1, fun u F2 H2 p2 s2 r2 => ?_⟩
  obtain ⟨ka, rfl⟩ := rp_ref (k := kk) r2 hc.1
  have g2 := g.step p2 rfl
  have pp2 := pp.trans p2
  refine ⟨F2, q1.2, .list [], q1.2, s2, rfl, fun ln F3 H3 p3 s3 o3 no3 hn3 => ?_⟩
  have g3 := g2.step p3 rfl
  have pp3 := pp2.trans p3
  obtain ⟨fl, vl, hvl, rvl⟩ := own_lst o3
  cases rvl
  have hs3 : Hs ln = none := pp2.none hn3
  have lnn : ln ∉ las := fun z => by
    obtain ⟨vs, hv⟩ := (g2.rg.free ln z).2
    rw [hn3] at hv
    cases hv
  have lna : ln ≠ a := fun z => by
    have := g2.ha
    rw [← z, hn3] at this
    cases this
  have r3 := dp_mono p3.ff _ _ r2
  have fr3 : ∀ b ∈ las, F3 b = none := fun b hb => (g3.rg.free b hb).1
  have sx := ext_same (H := H3) fr3
  refine ⟨a, xs, kk, ka, ext F3 H3 las, es, q1.1, .ref ln, rfl, rfl, g3.ha, ext_sub s3.sub, g3.rg.rpN fr3 fun _ h => h, hkk, dp_mono sx _ _ r3, by rw [g3.rg.len]; omega, fun y hy => ?_, fun hy => ?_⟩
  · -- the key is there
    have ex : ∃ la vs, la ∈ las ∧ y = .ref la ∧ H3 la = some (.lst vs) := by
      rcases rpG_app hkk r3 (Rp.non (K := cxK X) (H := F3)) g3.rg with ⟨z1, _⟩ | ⟨la, vs, z1, z2, z3, _⟩
      · rw [z1] at hy; cases hy
      · rw [z2] at hy
        cases hy
        exact ⟨la, vs, z1, rfl, z3⟩
    obtain ⟨la0, vs0, _, rfl, hla0⟩ := ex
    refine ⟨.inl ⟨rfl, vs0, SqL.of hla0⟩, F3, q1.2, q2.1, q2.2, s3, e2, fun w F4 H4 p4 s4 r4 => ?_⟩
    have g4 := g3.step p4 rfl
    have pp4 := pp3.trans p4
    have r4k := dp_mono p4.ff _ _ r3
    rcases rpG_app hkk r4k r4 g4.rg with ⟨z1, _⟩ | ⟨la, vs, z1, z2, z3, z4, z5⟩
    · rw [z1] at hy; cases hy
    · rw [z2] at hy
      cases hy
      refine ⟨la0, vs, w, rfl, rfl, z3, by rw [line_eq, z4]; exact hc.2.2.2, ?_⟩
      obtain ⟨f4, _⟩ := g4.rg.free la0 z1
      have hno := (g4.own la0 z1).1
      have hal : a ≠ la0 := fun z => g4.na (z ▸ z1)
      refine k F4 σ _ xs las (p2.ff.trans (p3.ff.trans p4.ff)) (stp_poke pp4 (.inl (g4.own la0 z1).2)) (st_side s4 f4 hno) ⟨g4.slot, g4.fa, by rw [upd_ne hal]; exact g4.ha, z5, g4.na, g4.own, g4.no⟩
  · -- a new key
    have g3l : St (cxK X) F3 (upd H3 a (dicO (cxK X) a (xs ++ [(kk, ka, .ref ln)]))) σ q1.2 := st_side s3 g3.fa g3.no
    have pp3l := stp_poke (o := dicO (cxK X) a (xs ++ [(kk, ka, .ref ln)])) pp3 (.inr oa)
    have hl4 : upd H3 a (dicO (cxK X) a (xs ++ [(kk, ka, .ref ln)])) ln = some (.lst []) := by
      rw [upd_ne lna]
      exact hvl
    refine ⟨.inl ⟨rfl, [], SqL.of hl4⟩, F3, q1.2, q2.1, q2.2, g3l, e2, fun w F4 H4 p4 s4 r4 => ?_⟩
    have pp4 := pp3l.trans p4
    obtain ⟨c1, c2⟩ := p4.keep a _ upd_same g3.no
    obtain ⟨c3, c4⟩ := p4.keep ln _ hl4 no3
    have fr : ∀ b, (∃ o, upd H3 a (dicO (cxK X) a (xs ++ [(kk, ka, .ref ln)])) b = some o) → ¬ Owns σ q1.2 b → ¬ Owns σ q2.2 b := fun b ho hn z => by
      rcases p4.fresh b z with q | q
      · exact hn q
      · obtain ⟨o, ho⟩ := ho
        rw [q] at ho
        cases ho
    have noa := fr a ⟨_, upd_same⟩ g3.no
    have nol := fr ln ⟨_, hl4⟩ no3
    have rg4 : RpG (cxK X) F4 H4 xs es las := g3.rg.mono p4.ff fun b hb => by
      obtain ⟨vs, hv⟩ := (g3.rg.free b hb).2
      have nb : b ≠ a := fun z => g3.na (z ▸ hb)
      have hv2 : upd H3 a (dicO (cxK X) a (xs ++ [(kk, ka, .ref ln)])) b = some (.lst vs) := by rw [upd_ne nb]; exact hv
      obtain ⟨d1, d2⟩ := p4.keep b _ hv2 (g3.own b hb).1
      exact ⟨d2, d1.trans hv.symm⟩
    have r4k := dp_mono p4.ff _ _ r3
    rcases rpG_app hkk r4k r4 rg4 with ⟨z1, z2⟩ | ⟨la, vs, z1, z2, _⟩
    · refine ⟨ln, [], w, rfl, rfl, c3, by rw [line_eq]; exact Nat.zero_lt_succ _, ?_⟩
      show E.nx σ (upd H4 ln (.lst [w]))
      have f4 : F4 ln = none := c4.trans fl
      refine k F4 σ _ (xs ++ [(kk, ka, .ref ln)]) (las ++ [ln]) (p2.ff.trans (p3.ff.trans p4.ff)) (stp_poke pp4 (.inl hs3)) (st_side s4 f4 nol) ⟨g3.slot, c2.trans g3.fa, by rw [upd_ne (Ne.symm lna)]; exact c1, z2 ln f4 lnn, fun z => ?_, fun b hb => ?_, noa⟩
      · rcases List.mem_append.mp z with z | z
        · exact g3.na z
        · exact lna (List.mem_singleton.mp z).symm
      · rcases List.mem_append.mp hb with h | h
        · refine ⟨fr b ?_ (g3.own b h).1, (g3.own b h).2⟩
          obtain ⟨vs, hv⟩ := (g3.rg.free b h).2
          have nb : b ≠ a := fun z => g3.na (z ▸ h)
          exact ⟨_, by rw [upd_ne nb]; exact hv⟩
        · rw [List.mem_singleton.mp h]
          exact ⟨nol, hs3⟩
    · rw [z2] at hy; cases hy
theorem ds_grp1 (i : Nat) {tg iter : Expr} {gi : Md (List D)} {gt : D → Env → Option Env} {is : List Nat} {gk gx : Md D} {body : List Stmt} (hc : X.calm = true) (hp : PassesOwn (model X.prog X.w) X.A X.env X.xe) (hi : DI X tg iter gi) (hg : DG X tg is gt) (hb : PSs X body (tTurn1 X i gk gx)) (his : i ∉ is) (hs : ∀ x, foldedSetIterable iter X.env x = pure x := by intro _; rfl) : DS X (.For tg iter body [] pos) (sGrp1 i gi gt gk gx) :=
  ps_imp (ps_for hp hc hi hg hb hs) fun E σ H q => by
    obtain ⟨F, ρ, f, ρ', s, eg, k⟩ := q
    obtain ⟨⟨ds, ρ1⟩, e1, eg1⟩ := bind_some eg
    simp only at eg1
    split at eg1
    · rename_i hemp
      have hown := emptyOwn_some hemp
      obtain ⟨⟨esf, ρf⟩, e2, eg2⟩ := bind_some eg1
      obtain ⟨ρe, e3, eg3⟩ := bind_some eg2
      cases eg3
      refine ⟨F, ρ, ds, ρ1, s, e1, fun J F1 H1 p1 s1 ok => ?_⟩
      obtain ⟨a, ea, o0, _⟩ := st_owned s1 hown
      obtain ⟨fa, xs0, hx0, rx0⟩ := own_dic o0
      cases rx0
      have oa : Owns σ ρ1 a := ⟨i, false, _, hown, ea⟩
      -- the slot forgotten
      have hil : i < ρ1.length := (List.getElem?_eq_some_iff.mp hown).1
      have sub : ∀ (j : Nat) (c : Cell), (ρ1.set i none)[j]? = some (some c) → j ≠ i ∧ ρ1[j]? = some (some c) := fun j c hj => by
        by_cases z : j = i
        · subst z
          rw [List.getElem?_set_self hil] at hj
          cases hj
        · rw [get_set_ne z] at hj
          exact ⟨z, hj⟩
      have s1f : St (cxK X) F1 H1 σ (ρ1.set i none) := ⟨s1.sub, by rw [List.length_set]; exact s1.len, fun j c hj => s1.cell j c (sub j c hj).2, fun j l f g d e b h1 h2 h3 h4 => s1.dist j l f g d e b (sub j _ h1).2 (sub l _ h2).2 h3 h4⟩
      have noa : ¬ Owns σ (ρ1.set i none) a := fun ⟨j, f, d, h1, h2⟩ => (sub j _ h1).1 (s1.dist j i f false d _ a (sub j _ h1).2 hown h2 ea)
      have p0 : Stp F1 σ ρ1 H1 F1 σ (ρ1.set i none) H1 := ⟨Same.refl _, fun _ _ h _ => ⟨h, rfl⟩, fun b ⟨j, f, d, h1, h2⟩ => .inl ⟨j, f, d, (sub j _ h1).2, h2⟩, fun j d h => by
        have z : j ≠ i := fun z => by
          subst z
          rw [hown] at h
          cases h
        exact ⟨rfl, d, by rw [get_set_ne z]; exact h⟩, fun _ o h => ⟨o, h⟩⟩
      have g0' : Gh (cxK X) F1 H1 σ (ρ1.set i none) H1 i a [] [] [] := ⟨ea, fa, hx0, .nil, by simp, by simp, noa⟩
      refine ⟨fun j m σi Hi => ∃ Fi ρi es xs las, m = ds.length - j ∧ j ≤ ds.length ∧ Stp F1 σ ρ1 H1 Fi σi ρi Hi ∧ St (cxK X) Fi Hi σi ρi ∧ Same F1 Fi ∧ Gh (cxK X) Fi Hi σi ρi H1 i a xs es las ∧ grpD1 gt gk gx (ds.drop j) es ρi = some (esf, ρf), ⟨ds.length, F1, _, [], [], [], by simp, Nat.zero_le _, p0, s1f, Same.refl _, g0', by simpa using e2⟩, ?_⟩
      rintro j m σi Hi ⟨Fi, ρi, es, xs, las, rfl, hj, pi, si, sf, gi, ei⟩
      by_cases hlt : j < ds.length
      · have hd : ds[j]? = some ds[j] := List.getElem?_eq_getElem hlt
        obtain ⟨ok1, _⟩ := ok Fi Hi sf si.sub j
        obtain ⟨go, yl⟩ := ok1 _ hd
        rw [drop_cons hd] at ei
        obtain ⟨ρ2, c1, ei⟩ := bind_some ei
        obtain ⟨q1, c4, ei⟩ := bind_some ei
        obtain ⟨q2, c5, ei⟩ := bind_some ei
        split at ei
        · rename_i hcd
          refine .inr ⟨go, fun σ' H' => ∃ F' ρ'' es' xs' las', Stp F1 σ ρ1 H1 F' σ' ρ'' H' ∧ St (cxK X) F' H' σ' ρ'' ∧ Same F1 F' ∧ Gh (cxK X) F' H' σ' ρ'' H1 i a xs' es' las' ∧ grpD1 gt gk gx (ds.drop (j + 1)) es' ρ'' = some (esf, ρf), fun σ' H' ⟨F', ρ'', es', xs', las', h1, h2, h3, h4, h5⟩ => ⟨ds.length - (j + 1), by omega, F', ρ'', es', xs', las', rfl, hlt, h1, h2, h3, h4, h5⟩, fun v H' hy => ?_⟩
          obtain ⟨F', gr, rv⟩ := yl v H' hy
          have pg := gr.stp σi ρi
          have gg := gi.step pg rfl
          refine ⟨F', ρi, _, ρ2, si.grow gr, rv, c1, fun σ2 F2 H2 p2 s2 hk2 => ?_⟩
          have gg2 := gg.step p2 (hk2.2 i his)
          have pp2 := (pi.trans pg).trans p2
          exact turn_ok1 s2 gg2 pp2 oa c4 c5 hcd fun F3 σ3 H3 xs3 las3 f3 pp3 s3 g3 => ⟨F3, q2.2, appG es q1.1 q2.1, xs3, las3, pp3, s3, (sf.trans (gr.ff.trans p2.ff)).trans f3, g3, ei⟩
        · cases ei
      · have hj2 : j = ds.length := by omega
        subst hj2
        rw [List.drop_length] at ei
        cases ei
        obtain ⟨_, ok2⟩ := ok Fi Hi sf si.sub ds.length
        refine .inl ⟨ok2 (Nat.le_refl _), ?_⟩
        -- all of it stands for good now
        have fl : ∀ b ∈ las, Fi b = none ∧ ¬ Owns σi ρf b := fun b hb => ⟨(gi.rg.free b hb).1, (gi.own b hb).1⟩
        have se := st_ext si fl
        have fe := ext_same (H := Hi) (las := las) fun b hb => (fl b hb).1
        have fea : ext Fi Hi las a = none := (ext_out gi.na).trans gi.fa
        have sz := st_frz se fea gi.ha gi.no
        have fz : Same (ext Fi Hi las) (upd (ext Fi Hi las) a (dicO (cxK X) a xs)) := same_new fea
        have rz : RpN (cxK X) (upd (ext Fi Hi las) a (dicO (cxK X) a xs)) xs esf := dpN_mono fz _ _ (gi.rg.rpN (fun b hb => (fl b hb).1) fun _ h => h)
        have pz := stp_ice pi (fe.trans fz) fun b hb => by
          by_cases za : b = a
          · subst za
            exact .inr oa
          · rw [upd_ne za] at hb
            by_cases zl : b ∈ las
            · exact .inl (gi.own b zl).2
            · exact absurd (ext_out zl) hb
        have sσ : σi.set i (some (.ref a)) = σi := by
          have hl : i < σi.length := (List.getElem?_eq_some_iff.mp gi.slot).1
          apply List.ext_getElem?
          intro l
          by_cases z : l = i
          · subst z
            rw [List.getElem?_set_self hl, gi.slot]
          · rw [List.getElem?_set_ne (Ne.symm z)]
        have st2 := st_set (v := .ref a) sz e3 ⟨.ref a, rfl, .dicN upd_same rz⟩ fun _ _ _ z => nomatch z
        have pt2 := stp_set (v := .ref a) pz e3 fun _ _ _ z => nomatch z
        rw [sσ] at st2 pt2
        exact k σi _ Hi (p1.trans pt2) st2
    · cases eg1
end
end Dn
set_option maxHeartbeats 2000000
/-! what a denotation comes to: words for reckoning -/
namespace Dm
open PySem Dn
abbrev Env := Dn.Env

def Wo {α : Type} (o : Option α) (Q : α → Prop) : Prop := ∃ a, o = some a ∧ Q a
def Wm {α : Type} (g : Md α) (ρ : Env) (Q : α → Env → Prop) : Prop := Wo (g ρ) fun p => Q p.1 p.2
def Ws (g : Sd) (ρ : Env) (Q : Fl → Env → Prop) : Prop := Wo (g ρ) fun p => Q p.1 p.2

section
variable {α β : Type} {ρ : Env}
theorem wo_some {a : α} {Q : α → Prop} : Wo (some a) Q ↔ Q a := ⟨fun ⟨_, e, q⟩ => by cases e; exact q, fun q => ⟨a, rfl, q⟩⟩
theorem wo_none {Q : α → Prop} : Wo (none : Option α) Q ↔ False := ⟨fun ⟨_, e, _⟩ => (by cases e), False.elim⟩
theorem wo_bind {o : Option α} {f : α → Option β} {Q : β → Prop} : Wo (o.bind f) Q ↔ Wo o fun a => Wo (f a) Q := by
  cases o with
  | none => exact ⟨fun ⟨_, e, _⟩ => (by cases e), fun ⟨_, e, _⟩ => (by cases e)⟩
  | some a => exact ⟨fun h => ⟨a, rfl, h⟩, fun ⟨_, e, h⟩ => by cases e; exact h⟩
theorem wo_mono {o : Option α} {Q Q' : α → Prop} (h : Wo o Q) (i : ∀ a, Q a → Q' a) : Wo o Q' := let ⟨a, e, q⟩ := h; ⟨a, e, i a q⟩
theorem wo_ite {c : Prop} [Decidable c] {a b : Option α} {Q : α → Prop} : Wo (if c then a else b) Q ↔ if c then Wo a Q else Wo b Q := by
  by_cases h : c
  · rw [if_pos h, if_pos h]
  · rw [if_neg h, if_neg h]
theorem wo_of {o : Option α} {a : α} {Q : α → Prop} (e : o = some a) (q : Q a) : Wo o Q := ⟨a, e, q⟩
theorem wo_eq {o : Option α} {a : α} : Wo o (fun x => x = a) ↔ o = some a := ⟨fun ⟨_, e, q⟩ => by rw [e, q], fun h => ⟨a, h, rfl⟩⟩

def valOf : Option (Option Cell) → Option D
  | some (some (.val d)) => some d
  | _ => none
theorem valOf_val {d : D} : valOf (some (some (.val d))) = some d := rfl
/-- own lists that are looked at -/
def frzOf (i : Nat) (ρ : Env) : Option (Option Cell) → Option (D × Env)
  | some (some (.val d)) => some (d, ρ)
  | some (some (.own false d)) => some (d, ρ.set i (some (.val d)))
  | _ => none
theorem frz_val {i : Nat} {d : D} : frzOf i ρ (some (some (.val d))) = some (d, ρ) := rfl
theorem frz_own {i : Nat} {d : D} : frzOf i ρ (some (some (.own false d))) = some (d, ρ.set i (some (.val d))) := rfl
def cOwn : Option (Option Cell) → Option (Bool × D)
  | some (some (.own b d)) => some (b, d)
  | _ => none
theorem cOwn_own {b : Bool} {d : D} : cOwn (some (some (.own b d))) = some (b, d) := rfl
def peekOf : Option (Option Cell) → Option D
  | some (some (.val d)) => some d
  | some (some (.own _ d)) => some d
  | _ => none
theorem peek_val {d : D} : peekOf (some (some (.val d))) = some d := rfl
theorem peek_own {b : Bool} {d : D} : peekOf (some (some (.own b d))) = some d := rfl
def canSet : Option (Option Cell) → Option Unit
  | some (some (.own true _)) => none
  | some _ => some ()
  | none => none
theorem canSet_none : canSet (some none) = some () := rfl
theorem canSet_val {d : D} : canSet (some (some (.val d))) = some () := rfl
theorem canSet_own {d : D} : canSet (some (some (.own false d))) = some () := rfl
def lstOf : D → Option (List D)
  | .list ds => some ds
  | _ => none
theorem lstOf_list {ds : List D} : lstOf (.list ds) = some ds := rfl

variable {Q : D → Env → Prop}
theorem wm_c {d : D} : Wm (gC d) ρ Q ↔ Q d ρ := wo_some
theorem wm_var {i : Nat} : Wm (gVar i) ρ Q ↔ Wo (valOf ρ[i]?) fun d => Q d ρ := by
  unfold Wm gVar
  split
  · rename_i d h
    rw [h, wo_some, valOf_val, wo_some]
  · rename_i h
    have e : valOf ρ[i]? = none := by
      unfold valOf
      split
      · rename_i d z
        exact absurd z (h d)
      · rfl
    rw [e, wo_none, wo_none]
theorem wm_frz {i : Nat} : Wm (gFrz i) ρ Q ↔ Wo (frzOf i ρ ρ[i]?) fun p => Q p.1 p.2 := by
  unfold Wm gFrz frzOf
  exact Iff.rfl
theorem wm_bin {f : D → D → Option D} {a b : Md D} : Wm (gBin f a b) ρ Q ↔ Wm a ρ fun x ρ1 => Wm b ρ1 fun y ρ2 => Wo (f x y) fun r => Q r ρ2 := by
  unfold Wm gBin
  simp only [wo_bind, wo_some]
theorem wm_un {f : D → Option D} {a : Md D} : Wm (gUn f a) ρ Q ↔ Wm a ρ fun x ρ1 => Wo (f x) fun r => Q r ρ1 := by
  unfold Wm gUn
  simp only [wo_bind, wo_some]
theorem wm_tst {a : Md D} {Q : Bool → Env → Prop} : Wm (gTst a) ρ Q ↔ Wm a ρ fun x ρ1 => Wo (bOf x) fun b => Q b ρ1 := by
  unfold Wm gTst
  simp only [wo_bind, wo_some]
theorem wm_tru {a : Md D} {Q : Bool → Env → Prop} : Wm (gTru a) ρ Q ↔ Wm a ρ fun x ρ1 => Wo (truT x) fun b => Q b ρ1 := by
  unfold Wm gTru
  simp only [wo_bind, wo_some]
theorem wm_truB {i : Nat} {Q : Bool → Env → Prop} : Wm (gTruB i) ρ Q ↔ Wo (peekOf ρ[i]?) fun d => Wo (truT d) fun b => Q b ρ := by
  unfold Wm gTruB
  simp only [wo_bind, wo_some]
  exact Iff.rfl
theorem wm_chain {f f' : D → D → Option D} {a b c : Md D} : Wm (gChain f f' a b c) ρ Q ↔ Wm a ρ fun x ρ1 => Wm b ρ1 fun y ρ2 => Wo (f x y) fun r => Wo (bOf r) fun t =>
    if t = true then Wm c ρ2 fun z ρ3 => Wo (f' y z) fun r => Q r ρ3 else Q (.bool false) ρ2 := by
  unfold Wm gChain
  simp only [wo_bind, wo_some, wo_ite]
theorem wm_and {a b : Md Bool} {Q : Bool → Env → Prop} : Wm (gAnd a b) ρ Q ↔ Wm a ρ fun x ρ1 => if x = true then Wm b ρ1 Q else Q false ρ1 := by
  unfold Wm gAnd
  simp only [wo_bind, wo_some, wo_ite]
theorem wm_or {a b : Md Bool} {Q : Bool → Env → Prop} : Wm (gOr a b) ρ Q ↔ Wm a ρ fun x ρ1 => if x = true then Q true ρ1 else Wm b ρ1 Q := by
  unfold Wm gOr
  simp only [wo_bind, wo_some, wo_ite]
theorem wm_not {a : Md Bool} {Q : Bool → Env → Prop} : Wm (gNot a) ρ Q ↔ Wm a ρ fun x ρ1 => Q (!x) ρ1 := by
  unfold Wm gNot
  simp only [wo_bind, wo_some]
theorem wm_andV {a b : Md D} : Wm (gAndV a b) ρ Q ↔ Wm a ρ fun x ρ1 => Wo (bOf x) fun t => if t = true then Wm b ρ1 Q else Q (.bool false) ρ1 := by
  unfold Wm gAndV
  simp only [wo_bind, wo_some, wo_ite]
theorem wm_orV {a b : Md D} : Wm (gOrV a b) ρ Q ↔ Wm a ρ fun x ρ1 => Wo (bOf x) fun t => if t = true then Q (.bool true) ρ1 else Wm b ρ1 Q := by
  unfold Wm gOrV
  simp only [wo_bind, wo_some, wo_ite]
theorem wm_notV {a : Md D} : Wm (gNotV a) ρ Q ↔ Wm a ρ fun x ρ1 => Wo (bOf x) fun t => Q (.bool !t) ρ1 := by
  unfold Wm gNotV
  simp only [wo_bind, wo_some]
theorem wm_ifE {c : Md Bool} {a b : Md D} : Wm (gIfE c a b) ρ Q ↔ Wm c ρ fun x ρ1 => if x = true then Wm a ρ1 Q else Wm b ρ1 Q := by
  unfold Wm gIfE
  simp only [wo_bind, wo_some, wo_ite]
theorem wm_nil {Q : List D → Env → Prop} : Wm gNil ρ Q ↔ Q [] ρ := wo_some
theorem wm_cons {a : Md D} {b : Md (List D)} {Q : List D → Env → Prop} : Wm (gCons a b) ρ Q ↔ Wm a ρ fun x ρ1 => Wm b ρ1 fun y ρ2 => Q (x :: y) ρ2 := by
  unfold Wm gCons
  simp only [wo_bind, wo_some]
theorem wm_app {f : List D → Option D} {a : Md (List D)} : Wm (gApp f a) ρ Q ↔ Wm a ρ fun x ρ1 => Wo (f x) fun r => Q r ρ1 := by
  unfold Wm gApp
  simp only [wo_bind, wo_some]
theorem wm_noP {Q : Option Int → Env → Prop} : Wm gNoP ρ Q ↔ Q none ρ := wo_some
theorem wm_part {a : Md D} {Q : Option Int → Env → Prop} : Wm (gPart a) ρ Q ↔ Wm a ρ fun x ρ1 => Wo (iOf x) fun i => Q (some i) ρ1 := by
  unfold Wm gPart
  simp only [wo_bind, wo_some]
theorem wm_sl {a : Md D} {l h : Md (Option Int)} : Wm (gSl a l h) ρ Q ↔ Wm a ρ fun x ρ1 => Wm l ρ1 fun i ρ2 => Wm h ρ2 fun j ρ3 => Wo (cutD x i j) fun r => Q r ρ3 := by
  unfold Wm gSl
  simp only [wo_bind, wo_some]
theorem wm_pk {i : Nat} {f : List D → Option D} : Wm (gPk i f) ρ Q ↔ Wo (peekOf ρ[i]?) fun d => Wo (f [d]) fun r => flatD r = true ∧ Q r ρ := by
  unfold Wm gPk
  simp only [wo_bind]
  refine Iff.of_eq (congrArg _ (funext fun d => congrArg _ (funext fun r => ?_)))
  rw [wo_ite, wo_some, wo_none]
  by_cases h : flatD r = true
  · rw [if_pos h]; simp [h]
  · rw [if_neg h]; simp [h]
def ownSt (i : Nat) (ρ : Env) : Prop := ∃ b d, ρ[i]? = some (some (.own b d))
theorem cOwn_some {o : Option (Option Cell)} {p : Bool × D} (h : cOwn o = some p) : o = some (some (.own p.1 p.2)) := by
  unfold cOwn at h
  split at h
  · cases h; rfl
  · cases h
theorem wm_io {i : Nat} {f : D → List D → Option (D × D)} {a : Md (List D)} : Wm (gCallIO i f a) ρ Q ↔ Wo (cOwn ρ[i]?) fun _ => Wm a ρ fun ds ρ1 => Wo (cOwn ρ1[i]?) fun c => Wo (f c.2 ds) fun r => Q r.1 (ρ1.set i (some (.own c.1 r.2))) := by
  unfold Wm gCallIO
  split
  · rename_i b d h
    rw [h, cOwn_own, wo_some, wo_bind]
    refine Iff.of_eq (congrArg _ (funext fun p => ?_))
    try dsimp only
    split
    · rename_i b1 d1 h1
      rw [h1, cOwn_own, wo_some, wo_bind]
      simp only [wo_some]
    · rename_i h1
      have e : cOwn p.2[i]? = none := by
        unfold cOwn
        split
        · rename_i b2 d2 z
          exact absurd z (h1 b2 d2)
        · rfl
      rw [e, wo_none, wo_none]
  · rename_i h
    have e : cOwn ρ[i]? = none := by
      unfold cOwn
      split
      · rename_i b2 d2 z
        exact absurd z (h b2 d2)
      · rfl
    rw [e, wo_none, wo_none]
theorem wm_ixB_val {i : Nat} {a : Md D} {d : D} (h : ρ[i]? = some (some (.val d))) : Wm (gIxB i a) ρ Q ↔ Wm a ρ fun x ρ1 => Wo (ixD d x) fun r => Q r ρ1 := by
  unfold Wm gIxB
  rw [h]
  simp only [wo_bind, wo_some]
theorem wm_ixB {i : Nat} {a : Md D} {b : Bool} {d : D} (h : ρ[i]? = some (some (.own b d))) : Wm (gIxB i a) ρ Q ↔ Wm a ρ fun x ρ1 => Wo (cOwn ρ1[i]?) fun c => Wo (ixD c.2 x) fun r => Q r ρ1 := by
  unfold Wm gIxB
  rw [h]
  simp only [wo_bind]
  refine Iff.of_eq (congrArg _ (funext fun p => ?_))
  try dsimp only
  split
  · rename_i b1 d1 h1
    rw [h1, cOwn_own, wo_some, wo_bind]
    simp only [wo_some]
  · rename_i h1
    have e : cOwn p.2[i]? = none := by
      unfold cOwn
      split
      · rename_i b2 d2 z
        exact absurd z (h1 b2 d2)
      · rfl
    rw [e, wo_none, wo_none]
def byCell (o : Option (Option Cell)) (p : D → Prop) (q : Prop) : Prop := match o with
  | some (some (.val d)) => p d
  | some (some (.own _ _)) => q
  | _ => False
theorem by_val {d : D} {p : D → Prop} {q : Prop} : byCell (some (some (.val d))) p q ↔ p d := Iff.rfl
theorem by_own {b : Bool} {d : D} {p : D → Prop} {q : Prop} : byCell (some (some (.own b d))) p q ↔ q := Iff.rfl
theorem wm_ix {i : Nat} {a : Md D} : Wm (gIxB i a) ρ Q ↔ byCell ρ[i]? (fun d => Wm a ρ fun x ρ1 => Wo (ixD d x) fun r => Q r ρ1) (Wm a ρ fun x ρ1 => Wo (cOwn ρ1[i]?) fun c => Wo (ixD c.2 x) fun r => Q r ρ1) := by
  cases h : ρ[i]? with
  | none =>
    unfold Wm gIxB
    rw [h, wo_none]
    exact Iff.rfl
  | some o =>
    cases o with
    | none =>
      unfold Wm gIxB
      rw [h, wo_none]
      exact Iff.rfl
    | some c =>
      cases c with
      | val d => exact wm_ixB_val h
      | own b d => exact wm_ixB h
theorem wm_inB {neg : Bool} {i : Nat} {a : Md D} : Wm (gInB neg i a) ρ Q ↔ Wm a ρ fun x ρ1 => Wo (peekOf ρ1[i]?) fun e => Wo (inT x e) fun b => Q (.bool (if neg = true then !b else b)) ρ1 := by
  unfold Wm gInB
  simp only [wo_bind, wo_some]
  exact Iff.rfl
theorem wm_true {Q : Bool → Env → Prop} : Wm gTrue ρ Q ↔ Q true ρ := wo_some
theorem wm_seq {a : Md D} {Q : List D → Env → Prop} : Wm (gSeq a) ρ Q ↔ Wm a ρ fun x ρ1 => Wo (seqOf x) fun ds => Q ds ρ1 := by
  unfold Wm gSeq
  simp only [wo_bind, wo_some]
def oneInt : List D → Option Int
  | [.int j] => if small62 j = true then some j else none
  | _ => none
theorem oneInt_int {j : Int} : oneInt [.int j] = if small62 j = true then some j else none := rfl
theorem wm_rng1 {a : Md (List D)} {Q : List D → Env → Prop} : Wm (gRng1 a) ρ Q ↔ Wm a ρ fun x ρ1 => Wo (oneInt x) fun j => Q (rngL 0 j.toNat) ρ1 := by
  unfold Wm gRng1
  rw [wo_bind]
  refine Iff.of_eq (congrArg _ (funext fun p => ?_))
  try dsimp only
  split
  · rename_i j e
    rw [e, oneInt_int, wo_ite, wo_ite, wo_some, wo_some, wo_none, wo_none]
  · rename_i h
    have e : oneInt p.1 = none := by
      unfold oneInt
      split
      · rename_i j z
        exact absurd z (h j)
      · rfl
    rw [e, wo_none, wo_none]
def twoInts : List D → Option (Int × Int)
  | [.int i, .int j] => if small62 i = true ∧ small62 j = true then some (i, j) else none
  | _ => none
theorem twoInts_int {i j : Int} : twoInts [.int i, .int j] = if small62 i = true ∧ small62 j = true then some (i, j) else none := rfl
theorem wm_rng2 {a : Md (List D)} {Q : List D → Env → Prop} : Wm (gRng2 a) ρ Q ↔ Wm a ρ fun x ρ1 => Wo (twoInts x) fun p => Q (rngL p.1 (p.2 - p.1).toNat) ρ1 := by
  unfold Wm gRng2
  rw [wo_bind]
  refine Iff.of_eq (congrArg _ (funext fun p => ?_))
  try dsimp only
  split
  · rename_i i j e
    rw [e, twoInts_int, wo_ite, wo_ite, wo_some, wo_some, wo_none, wo_none]
  · rename_i h
    have e : twoInts p.1 = none := by
      unfold twoInts
      split
      · rename_i i j z
        exact absurd z (h i j)
      · rfl
    rw [e, wo_none, wo_none]

/-! statements -/
def thenQ (t : Sd) (Q : Fl → Env → Prop) : Fl → Env → Prop
  | .nx, ρ => Ws t ρ Q
  | .ret d, ρ => Q (.ret d) ρ
  | .rof d, ρ => Q (.rof d) ρ
  | .brk, ρ => Q .brk ρ
  | .cnt, ρ => Q .cnt ρ
variable {R : Fl → Env → Prop}
theorem then_nx {t : Sd} : thenQ t R .nx ρ ↔ Ws t ρ R := Iff.rfl
theorem then_ret {t : Sd} {d : D} : thenQ t R (.ret d) ρ ↔ R (.ret d) ρ := Iff.rfl
theorem then_rof {t : Sd} {d : D} : thenQ t R (.rof d) ρ ↔ R (.rof d) ρ := Iff.rfl
theorem then_brk {t : Sd} : thenQ t R .brk ρ ↔ R .brk ρ := Iff.rfl
theorem then_cnt {t : Sd} : thenQ t R .cnt ρ ↔ R .cnt ρ := Iff.rfl
theorem ws_next : Ws sNext ρ R ↔ R .nx ρ := wo_some
theorem ws_brk : Ws sBrk ρ R ↔ R .brk ρ := wo_some
theorem ws_cnt : Ws sCnt ρ R ↔ R .cnt ρ := wo_some
theorem ws_seq {s t : Sd} : Ws (sSeq s t) ρ R ↔ Ws s ρ (thenQ t R) := by
  unfold Ws sSeq
  rw [wo_bind]
  refine Iff.of_eq (congrArg _ (funext fun p => ?_))
  try dsimp only
  obtain ⟨f, ρ1⟩ := p
  cases f with
  | nx => rfl
  | ret d => exact propext wo_some
  | rof d => exact propext wo_some
  | brk => exact propext wo_some
  | cnt => exact propext wo_some
theorem ws_if {g : Md Bool} {s t : Sd} : Ws (sIf g s t) ρ R ↔ Wm g ρ fun b ρ1 => if b = true then Ws s ρ1 R else Ws t ρ1 R := by
  unfold Ws Wm sIf
  simp only [wo_bind, wo_ite]
theorem ws_ret {g : Md D} : Ws (sRet g) ρ R ↔ Wm g ρ fun d ρ1 => R (.ret d) ρ1 := by
  unfold Ws Wm sRet
  simp only [wo_bind, wo_some]
theorem ws_rof {g : Md D} : Ws (sRof g) ρ R ↔ Wm g ρ fun d ρ1 => R (.rof d) ρ1 := by
  unfold Ws Wm sRof
  simp only [wo_bind, wo_some]
theorem ws_drop {g : Md D} : Ws (sDrop g) ρ R ↔ Wm g ρ fun _ ρ1 => R .nx ρ1 := by
  unfold Ws Wm sDrop
  simp only [wo_bind, wo_some]
theorem setC_eq {i : Nat} {c : Cell} : setC i c ρ = (canSet ρ[i]?).bind fun _ => some (ρ.set i (some c)) := by
  unfold setC canSet
  split <;> rename_i h <;> simp only [h] <;> try rfl
theorem ws_set {i : Nat} {g : Md D} : Ws (sSet i g) ρ R ↔ Wm g ρ fun d ρ1 => Wo (canSet ρ1[i]?) fun _ => R .nx (ρ1.set i (some (.val d))) := by
  unfold Ws Wm sSet
  simp only [wo_bind, wo_some, setC_eq]
theorem ws_own {i : Nat} {g : Md D} : Ws (sOwn i g) ρ R ↔ Wm g ρ fun d ρ1 => Wo (canSet ρ1[i]?) fun _ => R .nx (ρ1.set i (some (.own false d))) := by
  unfold Ws Wm sOwn
  simp only [wo_bind, wo_some, setC_eq]
theorem ws_asg {g : Md D} {t : D → Env → Option Env} : Ws (sAsg g t) ρ R ↔ Wm g ρ fun d ρ1 => Wo (t d ρ1) fun r => R .nx r := by
  unfold Ws Wm sAsg
  simp only [wo_bind, wo_some]
theorem wo_TN {i : Nat} {d : D} {Q : Env → Prop} : Wo (gTN i d ρ) Q ↔ Wo (canSet ρ[i]?) fun _ => Q (ρ.set i (some (.val d))) := by
  unfold gTN
  simp only [setC_eq, wo_bind, wo_some]
theorem wo_TNil {Q : Env → Prop} : Wo (gTNil [] ρ) Q ↔ Q ρ := wo_some
theorem wo_TCons {g : D → Env → Option Env} {gs : List D → Env → Option Env} {d : D} {ds : List D} {Q : Env → Prop} : Wo (gTCons g gs (d :: ds) ρ) Q ↔ Wo (g d ρ) fun ρ1 => Wo (gs ds ρ1) Q := wo_bind
theorem wo_TTup {n : Nat} {gs : List D → Env → Option Env} {ds : List D} {Q : Env → Prop} : Wo (gTTup n gs (.tuple ds) ρ) Q ↔ ds.length = n ∧ Wo (gs ds ρ) Q := by
  show Wo (if ds.length = n then gs ds ρ else none) Q ↔ _
  by_cases h : ds.length = n
  · rw [if_pos h]; simp [h]
  · rw [if_neg h, wo_none]; simp [h]
theorem ws_app {i : Nat} {g : Md D} {b0 : Bool} {xs : List D} (h : ρ[i]? = some (some (.own b0 (.list xs)))) : Ws (sApp i g) ρ R ↔ Wm g ρ fun d ρ1 => Wo (cOwn ρ1[i]?) fun c => Wo (lstOf c.2) fun ds => ds.length < 16777216 ∧ R .nx (ρ1.set i (some (.own c.1 (.list (ds ++ [d]))))) := by
  unfold Ws Wm sApp
  rw [h]
  simp only [wo_bind]
  refine Iff.of_eq (congrArg _ (funext fun p => ?_))
  try dsimp only
  split
  · rename_i b1 ds h1
    rw [h1, cOwn_own, wo_some]
    show _ = Wo (lstOf (.list ds)) _
    rw [lstOf_list, wo_some]
    by_cases hl : ds.length < 16777216
    · rw [if_pos hl, wo_some]; simp [hl]
    · rw [if_neg hl, wo_none]; simp [hl]
  · rename_i h1
    cases q : cOwn p.2[i]? with
    | none => rw [wo_none, wo_none]
    | some c =>
      have e := cOwn_some q
      rw [wo_none, wo_some]
      cases z : c.2 with
      | list ds => exact absurd (by rw [e, z]) (h1 c.1 ds)
      | none => exact propext ⟨False.elim, fun ⟨_, e, _⟩ => (by cases e)⟩
      | bool _ => exact propext ⟨False.elim, fun ⟨_, e, _⟩ => (by cases e)⟩
      | int _ => exact propext ⟨False.elim, fun ⟨_, e, _⟩ => (by cases e)⟩
      | str _ => exact propext ⟨False.elim, fun ⟨_, e, _⟩ => (by cases e)⟩
      | tuple _ => exact propext ⟨False.elim, fun ⟨_, e, _⟩ => (by cases e)⟩
      | dict _ => exact propext ⟨False.elim, fun ⟨_, e, _⟩ => (by cases e)⟩
theorem ws_ap {i : Nat} {g : Md D} : Ws (sApp i g) ρ R ↔ Wo (cOwn ρ[i]?) fun c0 => Wo (lstOf c0.2) fun _ => Wm g ρ fun d ρ1 => Wo (cOwn ρ1[i]?) fun c => Wo (lstOf c.2) fun ds => ds.length < 16777216 ∧ R .nx (ρ1.set i (some (.own c.1 (.list (ds ++ [d]))))) := by
  cases h : cOwn ρ[i]? with
  | none =>
    rw [wo_none]
    unfold Ws sApp
    split
    · rename_i b0 d0 h0
      rw [h0] at h
      cases h
    · rw [wo_none]
  | some c =>
    have e := cOwn_some h
    rw [wo_some]
    cases z : c.2 with
    | list xs =>
      rw [z] at e
      rw [lstOf_list, wo_some]
      exact ws_app e
    | none => exact ⟨fun ⟨_, q, _⟩ => (by rw [z] at e; unfold sApp at q; rw [e] at q; cases q), fun ⟨_, q, _⟩ => (by cases q)⟩
    | bool _ => exact ⟨fun ⟨_, q, _⟩ => (by rw [z] at e; unfold sApp at q; rw [e] at q; cases q), fun ⟨_, q, _⟩ => (by cases q)⟩
    | int _ => exact ⟨fun ⟨_, q, _⟩ => (by rw [z] at e; unfold sApp at q; rw [e] at q; cases q), fun ⟨_, q, _⟩ => (by cases q)⟩
    | str _ => exact ⟨fun ⟨_, q, _⟩ => (by rw [z] at e; unfold sApp at q; rw [e] at q; cases q), fun ⟨_, q, _⟩ => (by cases q)⟩
    | tuple _ => exact ⟨fun ⟨_, q, _⟩ => (by rw [z] at e; unfold sApp at q; rw [e] at q; cases q), fun ⟨_, q, _⟩ => (by cases q)⟩
    | dict _ => exact ⟨fun ⟨_, q, _⟩ => (by rw [z] at e; unfold sApp at q; rw [e] at q; cases q), fun ⟨_, q, _⟩ => (by cases q)⟩
theorem ws_setIx {i : Nat} {gv gi : Md D} : Ws (sSetIx i gv gi) ρ R ↔ Wm gv ρ fun d ρ1 => Wo (cOwn ρ1[i]?) fun _ => Wm gi ρ1 fun x ρ2 => Wo (iOf x) fun z => Wo (cOwn ρ2[i]?) fun c => Wo (lstOf c.2) fun ds => Wo (ixS ds.length z) fun j => R .nx (ρ2.set i (some (.own c.1 (.list (ds.set j d))))) := by
  unfold Ws Wm sSetIx
  rw [wo_bind]
  refine Iff.of_eq (congrArg _ (funext fun p => ?_))
  try dsimp only
  split
  · rename_i b0 d0 h0
    rw [h0, cOwn_own, wo_some, wo_bind]
    refine congrArg _ (funext fun q => ?_)
    try dsimp only
    rw [wo_bind]
    refine congrArg _ (funext fun z => ?_)
    try dsimp only
    split
    · rename_i b1 ds h1
      rw [h1, cOwn_own, wo_some, wo_bind]
      show _ = Wo (lstOf (.list ds)) _
      rw [lstOf_list, wo_some]
      simp only [wo_some]
    · rename_i h1
      cases q2 : cOwn q.2[i]? with
      | none => rw [wo_none, wo_none]
      | some c =>
        have e := cOwn_some q2
        rw [wo_none, wo_some]
        cases z : c.2 with
        | list ds => exact absurd (by rw [e, z]) (h1 c.1 ds)
        | none => exact propext ⟨False.elim, fun ⟨_, e, _⟩ => (by cases e)⟩
        | bool _ => exact propext ⟨False.elim, fun ⟨_, e, _⟩ => (by cases e)⟩
        | int _ => exact propext ⟨False.elim, fun ⟨_, e, _⟩ => (by cases e)⟩
        | str _ => exact propext ⟨False.elim, fun ⟨_, e, _⟩ => (by cases e)⟩
        | tuple _ => exact propext ⟨False.elim, fun ⟨_, e, _⟩ => (by cases e)⟩
        | dict _ => exact propext ⟨False.elim, fun ⟨_, e, _⟩ => (by cases e)⟩
  · rename_i h
    have e : cOwn p.2[i]? = none := by
      unfold cOwn
      split
      · rename_i b2 d2 z
        exact absurd z (h b2 d2)
      · rfl
    rw [e, wo_none, wo_none]
/-! loops -/
theorem ws_for {gi : Md (List D)} {tg : D → Env → Option Env} {b : Sd} : Ws (sFor gi tg b) ρ R ↔ Wm gi ρ fun ds ρ1 => Ws (forD tg b ds) ρ1 R := by
  unfold Ws Wm sFor
  rw [wo_bind]
theorem ws_mono {s : Sd} {R R' : Fl → Env → Prop} (h : Ws s ρ R) (i : ∀ f ρ', R f ρ' → R' f ρ') : Ws s ρ R' := wo_mono h fun p => i p.1 p.2
/-- every turn goes on -/
theorem for_all {tg : D → Env → Option Env} {b : Sd} (I : List D → Env → Prop) : ∀ (ds pre : List D) (ρ : Env), I pre ρ →
    (∀ (p : List D) (d : D) (r : List D) (ρ : Env), pre ++ ds = p ++ d :: r → I p ρ → Wo (tg d ρ) fun ρ1 => Ws b ρ1 fun f ρ2 => (f = .nx ∨ f = .cnt) ∧ I (p ++ [d]) ρ2) →
    Ws (forD tg b ds) ρ fun f ρ' => f = .nx ∧ I (pre ++ ds) ρ'
  | [], pre, ρ, h, _ => ⟨(.nx, ρ), rfl, rfl, by rw [List.append_nil]; exact h⟩
  | d :: ds, pre, ρ, h, st => by
    obtain ⟨ρ1, e1, ⟨f, ρ2⟩, e2, hf, h2⟩ := st pre d ds ρ rfl h
    have ih := for_all I ds (pre ++ [d]) ρ2 h2 (fun p d' r ρ' e => st p d' r ρ' (by rw [← e]; simp))
    obtain ⟨⟨f', ρ'⟩, e3, h3, h4⟩ := ih
    refine ⟨(f', ρ'), ?_, h3, by simpa using h4⟩
    have hf' : f = .nx ∨ f = .cnt := hf
    show ((tg d ρ).bind fun ρ1 => (b ρ1).bind _) = _
    rw [e1]
    show ((b ρ1).bind _) = _
    rw [e2]
    rcases hf' with z | z
    · subst z; exact e3
    · subst z; exact e3
theorem ws_forall {tg : D → Env → Option Env} {b : Sd} {ds : List D} (I : List D → Env → Prop) (h0 : I [] ρ)
    (st : ∀ (p : List D) (d : D) (r : List D) (ρ : Env), ds = p ++ d :: r → I p ρ → Wo (tg d ρ) fun ρ1 => Ws b ρ1 fun f ρ2 => (f = .nx ∨ f = .cnt) ∧ I (p ++ [d]) ρ2)
    (fin : ∀ ρ', I ds ρ' → R .nx ρ') : Ws (forD tg b ds) ρ R :=
  ws_mono (for_all I ds [] ρ h0 fun p d r ρ e => st p d r ρ (by simpa using e)) fun f ρ' ⟨h1, h2⟩ => by
    subst h1
    exact fin ρ' (by simpa using h2)
theorem for_nil {tg : D → Env → Option Env} {b : Sd} : Ws (forD tg b []) ρ R ↔ R .nx ρ := wo_some
def turnQ (t : Sd) (R : Fl → Env → Prop) : Fl → Env → Prop
  | .nx, ρ => Ws t ρ R
  | .cnt, ρ => Ws t ρ R
  | .brk, ρ => R .nx ρ
  | .ret d, ρ => R (.ret d) ρ
  | .rof d, ρ => R (.rof d) ρ
theorem turn_nx {t : Sd} : turnQ t R .nx ρ ↔ Ws t ρ R := Iff.rfl
theorem turn_cnt {t : Sd} : turnQ t R .cnt ρ ↔ Ws t ρ R := Iff.rfl
theorem turn_brk {t : Sd} : turnQ t R .brk ρ ↔ R .nx ρ := Iff.rfl
theorem turn_ret {t : Sd} {d : D} : turnQ t R (.ret d) ρ ↔ R (.ret d) ρ := Iff.rfl
theorem turn_rof {t : Sd} {d : D} : turnQ t R (.rof d) ρ ↔ R (.rof d) ρ := Iff.rfl
theorem for_cons {tg : D → Env → Option Env} {b : Sd} {d : D} {ds : List D} : Ws (forD tg b (d :: ds)) ρ R ↔ Wo (tg d ρ) fun ρ1 => Ws b ρ1 (turnQ (forD tg b ds) R) := by
  show Wo ((tg d ρ).bind fun ρ1 => (b ρ1).bind _) _ ↔ _
  rw [wo_bind]
  refine Iff.of_eq (congrArg _ (funext fun ρ1 => ?_))
  try dsimp only
  rw [wo_bind]
  unfold Ws
  refine congrArg _ (funext fun p => ?_)
  try dsimp only
  obtain ⟨f, ρ2⟩ := p
  cases f with
  | nx => rfl
  | cnt => rfl
  | ret d => exact propext wo_some
  | rof d => exact propext wo_some
  | brk => exact propext wo_some
theorem while_succ {c : Md Bool} {b : Sd} {n : Nat} : Ws (whileD c b (n + 1)) ρ R ↔ Wm c ρ fun t ρ1 => if t = true then Ws b ρ1 (turnQ (whileD c b n) R) else R .nx ρ1 := by
  show Wo ((c ρ).bind fun q => if q.1 = true then (b q.2).bind _ else _) _ ↔ _
  rw [wo_bind]
  unfold Wm
  refine Iff.of_eq (congrArg _ (funext fun q => ?_))
  try dsimp only
  rw [wo_ite, wo_some]
  by_cases h : q.1 = true
  · rw [if_pos h, if_pos h, wo_bind]
    unfold Ws
    refine congrArg _ (funext fun p => ?_)
    try dsimp only
    obtain ⟨f, ρ2⟩ := p
    cases f with
    | nx => rfl
    | cnt => rfl
    | ret d => exact propext wo_some
    | rof d => exact propext wo_some
    | brk => exact propext wo_some
  · rw [if_neg h, if_neg h]
/-! comprehensions -/
theorem wm_lc {vs : List Nat} {gi : Md (List D)} {tg : D → Env → Option Env} {tt : Md Bool} {te : Md D} : Wm (gLc vs gi tg tt te) ρ Q ↔ Wm gi ρ fun ds ρ1 => (ds.length ≤ 16777216 ∧ vs.all (notOwn ρ1) = true) ∧ Wo (lcD vs tg tt te ds (wipeE ρ1 vs)) fun r => Q (.list r.1) (backE ρ1 vs r.2) := by
  unfold Wm gLc
  rw [wo_bind]
  refine Iff.of_eq (congrArg _ (funext fun p => ?_))
  try dsimp only
  by_cases h : p.1.length ≤ 16777216 ∧ vs.all (notOwn p.2) = true
  · rw [if_pos h, wo_bind]
    simp only [wo_some]
    exact propext ⟨fun z => ⟨h, z⟩, fun z => z.2⟩
  · rw [if_neg h, wo_none]
    exact propext ⟨False.elim, fun z => h z.1⟩
theorem lc_nil {vs : List Nat} {tg : D → Env → Option Env} {tt : Md Bool} {te : Md D} {Q : List D × Env → Prop} : Wo (lcD vs tg tt te [] ρ) Q ↔ Q ([], ρ) := wo_some
theorem lc_cons {vs : List Nat} {tg : D → Env → Option Env} {tt : Md Bool} {te : Md D} {d : D} {ds : List D} {Q : List D × Env → Prop} : Wo (lcD vs tg tt te (d :: ds) ρ) Q ↔ Wo (tg d ρ) fun ρ1 => Wm tt ρ1 fun b ρ2 =>
    if b = true then Wm te ρ2 fun y ρ3 => Wo (lcD vs tg tt te ds (wipeE ρ3 vs)) fun r => Q (y :: r.1, r.2) else Wo (lcD vs tg tt te ds (wipeE ρ2 vs)) Q := by
  show Wo ((tg d ρ).bind fun ρ1 => (tt ρ1).bind _) _ ↔ _
  unfold Wm
  simp only [wo_bind, wo_some, wo_ite]
/-- every item is kept, the environment is as before -/
theorem lc_map {vs : List Nat} {tg : D → Env → Option Env} {te : Md D} (f : D → D) {Q : List D × Env → Prop} : ∀ (ds : List D), (∀ d ∈ ds, Wo (tg d ρ) fun ρ1 => Wm te ρ1 fun y ρ2 => y = f d ∧ wipeE ρ2 vs = ρ) → Q (ds.map f, ρ) → Wo (lcD vs tg gTrue te ds ρ) Q
  | [], _, q => lc_nil.mpr q
  | d :: ds, h, q => by
    rw [lc_cons]
    refine wo_mono (h d List.mem_cons_self) fun ρ1 h1 => ?_
    rw [wm_true, if_pos rfl]
    refine wo_mono h1 fun p h2 => ?_
    dsimp only at h2 ⊢
    rw [h2.2]
    refine lc_map f (Q := fun r => Q (p.1 :: r.1, r.2)) ds (fun d' hd => h d' (List.mem_cons_of_mem _ hd)) ?_
    rw [h2.1]
    exact q
theorem lc_mapA {α : Type} {vs : List Nat} {tg : D → Env → Option Env} {te : Md D} (h f : α → D) {Q : List D × Env → Prop} : ∀ (xs : List α), (∀ x ∈ xs, Wo (tg (h x) ρ) fun ρ1 => Wm te ρ1 fun y ρ2 => y = f x ∧ wipeE ρ2 vs = ρ) → Q (xs.map f, ρ) → Wo (lcD vs tg gTrue te (xs.map h) ρ) Q
  | [], _, q => lc_nil.mpr q
  | d :: ds, hs, q => by
    rw [List.map_cons, lc_cons]
    refine wo_mono (hs d List.mem_cons_self) fun ρ1 h1 => ?_
    rw [wm_true, if_pos rfl]
    refine wo_mono h1 fun p h2 => ?_
    dsimp only at h2 ⊢
    rw [h2.2]
    refine lc_mapA h f (Q := fun r => Q (p.1 :: r.1, r.2)) ds (fun d' hd => hs d' (List.mem_cons_of_mem _ hd)) ?_
    rw [h2.1]
    exact q
/-! a comprehension with a state -/
theorem lc_inv {vs : List Nat} {tg : D → Env → Option Env} {te : Md D} (I : List D → List D → Env → Prop) {Q : List D × Env → Prop} : ∀ (ds pre acc : List D) (ρ : Env), I pre acc ρ →
    (∀ (p : List D) (d : D) (r a : List D) (ρ : Env), pre ++ ds = p ++ d :: r → I p a ρ → Wo (tg d ρ) fun ρ1 => Wm te ρ1 fun y ρ2 => I (p ++ [d]) (a ++ [y]) (wipeE ρ2 vs)) →
    (∀ a ρ', I (pre ++ ds) (acc ++ a) ρ' → Q (a, ρ')) → Wo (lcD vs tg gTrue te ds ρ) Q
  | [], pre, acc, ρ, h, _, q => lc_nil.mpr (q [] ρ (by rw [List.append_nil, List.append_nil]; exact h))
  | d :: ds, pre, acc, ρ, h, st, q => by
    rw [lc_cons]
    refine wo_mono (st pre d ds acc ρ rfl h) fun ρ1 h1 => ?_
    rw [wm_true, if_pos rfl]
    refine wo_mono h1 fun p h2 => ?_
    exact lc_inv I (Q := fun r => Q (p.1 :: r.1, r.2)) ds (pre ++ [d]) (acc ++ [p.1]) _ h2 (fun p' d' r a ρ' e => st p' d' r a ρ' (by rw [← e]; simp)) fun a ρ' hI => q (p.1 :: a) ρ' (by simpa using hI)

/-! defs -/
theorem wo_runV {N : Nat} {g : Sd} {ds : List D} {Q : D → Prop} : Wo (runV N g ds) Q ↔ Ws g (envV N ds) fun f ρ => Wo (endV (f, ρ)) Q := wo_bind
theorem wo_runF {N : Nat} {g : Sd} {ds : List D} {Q : D → Prop} : Wo (runF N g ds) Q ↔ Ws g (envV N ds) fun f ρ => Wo (endF (f, ρ)) Q := wo_bind
theorem wo_runIO {N : Nat} {g : Sd} {d : D} {ds : List D} {Q : D × D → Prop} : Wo (runIO N g d ds) Q ↔ Ws g (envIO N d ds) fun f ρ => Wo (endIO (f, ρ)) Q := wo_bind
theorem end_ret {d : D} {Q : D → Prop} : Wo (endV (.ret d, ρ)) Q ↔ Q d := wo_some
theorem end_nx {Q : D → Prop} : Wo (endV (.nx, ρ)) Q ↔ Q .none := wo_some
theorem end_rof {d : D} {Q : D → Prop} : Wo (endF (.rof d, ρ)) Q ↔ Q d := wo_some
theorem end_io {f : Fl} {Q : D × D → Prop} : Wo (endIO (f, ρ)) Q ↔ Wo (ownOf ρ[0]?) fun d => Wo (endV (f, ρ)) fun r => Q (r, d) := by
  unfold endIO
  simp only [wo_bind, wo_some]
theorem ownOf_own {d : D} : ownOf (some (some (.own true d))) = some d := rfl
end
/-! the functions on data, at data that are told -/
section
variable {i j : Int} {a b : Str} {p q : Bool} {xs ys : List D} {d e : D}
theorem add_ii : addD (.int i) (.int j) = some (.int (i + j)) := rfl
theorem add_ll : addD (.list xs) (.list ys) = if xs.length + ys.length ≤ 16777216 then some (.list (xs ++ ys)) else none := rfl
theorem add_tt : addD (.tuple xs) (.tuple ys) = if xs.length + ys.length ≤ 16777216 then some (.tuple (xs ++ ys)) else none := rfl
theorem add_ss : addD (.str a) (.str b) = if a.length + b.length ≤ 16777216 then some (.str (a ++ b)) else none := rfl
theorem sub_ii : subD (.int i) (.int j) = some (.int (i - j)) := rfl
theorem mul_ii : mulD (.int i) (.int j) = if i.natAbs.log2 + j.natAbs.log2 < 1000000 then some (.int (i * j)) else none := rfl
theorem mulS_ii : mulS (.int i) (.int j) = if -(2 ^ 64) < j ∧ j < 2 ^ 64 then some (.int (i * j)) else none := rfl
theorem mod_ii : modD (.int i) (.int j) = if 0 < j then some (.int (i % j)) else none := rfl
theorem fdiv_ii : fdivD (.int i) (.int j) = if 0 < j ∧ j < 18446744073709551616 then some (.int (i / j)) else none := rfl
theorem neg_i : negD (.int i) = some (.int (-i)) := rfl
theorem le_ii : leD (.int i) (.int j) = some (.bool (decide (i ≤ j))) := rfl
theorem gt_ii : gtD (.int i) (.int j) = some (.bool (decide (j < i))) := rfl
theorem ge_ii : geD (.int i) (.int j) = some (.bool (decide (j ≤ i))) := rfl
theorem eqT_ii : eqT (.int i) (.int j) = some (decide (i = j)) := rfl
theorem eqT_ss : eqT (.str a) (.str b) = some (decide (a = b)) := rfl
theorem eqT_bb : eqT (.bool p) (.bool q) = some (decide (p = q)) := rfl
theorem eqT_nn : eqT .none .none = some true := rfl
theorem ltT_ii : ltT (.int i) (.int j) = some (decide (i < j)) := rfl
theorem ltT_ss : ltT (.str a) (.str b) = some (decide (a.cps.toList < b.cps.toList)) := rfl
theorem wo_eqD {Q : D → Prop} : Wo (eqD d e) Q ↔ Wo (eqT d e) fun b => Q (.bool b) := by
  unfold eqD
  simp only [wo_bind, wo_some]
theorem wo_neD {Q : D → Prop} : Wo (neD d e) Q ↔ Wo (eqT d e) fun b => Q (.bool (!b)) := by
  unfold neD
  simp only [wo_bind, wo_some]
theorem wo_ltD {Q : D → Prop} : Wo (ltD d e) Q ↔ Wo (ltT d e) fun b => Q (.bool b) := by
  unfold ltD
  simp only [wo_bind, wo_some]
theorem wo_inD {Q : D → Prop} : Wo (inD d e) Q ↔ Wo (inT d e) fun b => Q (.bool b) := by
  unfold inD
  simp only [wo_bind, wo_some]
theorem wo_ninD {Q : D → Prop} : Wo (ninD d e) Q ↔ Wo (inT d e) fun b => Q (.bool (!b)) := by
  unfold ninD
  simp only [wo_bind, wo_some]
theorem is_n : isD d .none = some (.bool (isN d)) := by cases d <;> rfl
theorem isnt_n : isntD d .none = some (.bool (!isN d)) := by cases d <;> rfl
theorem is_bb : isD (.bool p) (.bool q) = some (.bool (decide (p = q))) := rfl
theorem isnt_bb : isntD (.bool p) (.bool q) = some (.bool (!decide (p = q))) := rfl
theorem bOf_b : bOf (.bool p) = some p := rfl
theorem iOf_i : iOf (.int i) = some i := rfl
theorem tru_b : truT (.bool p) = some p := rfl
theorem tru_n : truT .none = some false := rfl
theorem tru_i : truT (.int i) = some (i != 0) := rfl
theorem tru_l : truT (.list xs) = some (!xs.isEmpty) := rfl
theorem tru_t : truT (.tuple xs) = some (!xs.isEmpty) := rfl
theorem seq_l : seqOf (.list xs) = some xs := rfl
theorem seq_t : seqOf (.tuple xs) = some xs := rfl
theorem tup_l : tupF [.list xs] = some (.tuple xs) := rfl
theorem tup_t : tupF [.tuple xs] = some (.tuple xs) := rfl
theorem lst_l : lstF [.list xs] = some (.list xs) := rfl
theorem lst_t : lstF [.tuple xs] = some (.list xs) := rfl
theorem len_l : lenF [.list xs] = some (.int xs.length) := rfl
theorem len_t : lenF [.tuple xs] = some (.int xs.length) := rfl
theorem int_i : intF [.int i] = some (.int i) := rfl
theorem int_b : intF [.bool p] = some (.int (if p then 1 else 0)) := rfl
theorem abs_i : absF [.int i] = some (.int (if i < 0 then -i else i)) := rfl
theorem max_ii : maxF [.int i, .int j] = some (.int (if j > i then j else i)) := rfl
theorem min_ii : minF [.int i, .int j] = some (.int (if j < i then j else i)) := rfl
theorem ix_li : ixD (.list xs) (.int i) = ixA xs i := rfl
theorem ix_ti : ixD (.tuple xs) (.int i) = ixA xs i := rfl
theorem cut_l {l h : Option Int} : cutD (.list xs) l h = some (.list (cutA xs l h)) := rfl
theorem cut_t {l h : Option Int} : cutD (.tuple xs) l h = some (.tuple (cutA xs l h)) := rfl
theorem flat_i : flatD (.int i) = true := rfl
theorem flat_b : flatD (.bool p) = true := rfl
theorem flat_s : flatD (.str a) = true := rfl
theorem ix0 {α : Type} {x : α} {xs : List α} : ixA (x :: xs) 0 = some x := rfl
theorem ix1 {α : Type} {x y : α} {xs : List α} : ixA (x :: y :: xs) 1 = some y := rfl
theorem ix2 {α : Type} {x y z : α} {xs : List α} : ixA (x :: y :: z :: xs) 2 = some z := rfl
theorem isi_1 {T : String} {Q : D → Prop} : Wo (isiF T [d]) Q ↔ tyOk d = true ∧ Wo (L2.kitB (tyD d) T) fun b => Q (.bool b) := by
  show Wo (if tyOk d = true then (L2.kitB (tyD d) T).bind fun b => some (.bool b) else none) Q ↔ _
  by_cases h : tyOk d = true
  · simp only [h, ↓reduceIte, wo_bind, wo_some, true_and]
  · simp only [h, ↓reduceIte, wo_none, false_and, Bool.false_eq_true]
theorem tyOk_n : tyOk .none = true := rfl
theorem tyOk_b : tyOk (.bool p) = true := rfl
theorem tyOk_i : tyOk (.int i) = true := rfl
theorem tyOk_s : tyOk (.str a) = true := rfl
theorem tyOk_l : tyOk (.list xs) = true := rfl
theorem tyOk_t : tyOk (.tuple xs) = true := rfl
theorem k_nb : L2.kitB "NoneType" "bool" = some false := by decide +kernel
theorem k_bb : L2.kitB "bool" "bool" = some true := by decide +kernel
theorem k_ib : L2.kitB "int" "bool" = some false := by decide +kernel
theorem k_sb : L2.kitB "str" "bool" = some false := by decide +kernel
theorem k_ni : L2.kitB "NoneType" "int" = some false := by decide +kernel
theorem k_bi : L2.kitB "bool" "int" = some true := by decide +kernel
theorem k_ii : L2.kitB "int" "int" = some true := by decide +kernel
theorem k_si : L2.kitB "str" "int" = some false := by decide +kernel
theorem k_ns : L2.kitB "NoneType" "str" = some false := by decide +kernel
theorem k_bs : L2.kitB "bool" "str" = some false := by decide +kernel
theorem k_is : L2.kitB "int" "str" = some false := by decide +kernel
theorem k_ss : L2.kitB "str" "str" = some true := by decide +kernel
theorem k_ll : L2.kitB "list" "list" = some true := by decide +kernel
theorem k_tt : L2.kitB "tuple" "tuple" = some true := by decide +kernel
theorem ty_n : tyD .none = "NoneType" := rfl
theorem ty_b : tyD (.bool p) = "bool" := rfl
theorem ty_i : tyD (.int i) = "int" := rfl
theorem ty_s : tyD (.str a) = "str" := rfl
theorem ty_l : tyD (.list xs) = "list" := rfl
theorem ty_t : tyD (.tuple xs) = "tuple" := rfl
theorem wm_enum {a : Md (List D)} {ρ : Env} {Q : List D → Env → Prop} : Wm (gEnum a) ρ Q ↔ Wm a ρ fun x ρ1 => Wo (enumOf x) fun ds => Q ds ρ1 := by
  show Wo ((a ρ).bind fun p => (enumOf p.1).bind fun ds => some (ds, p.2)) _ ↔ _
  unfold Wm
  simp only [wo_bind, wo_some]
theorem enum_l : enumOf [.list xs] = some (enumL 0 xs) := rfl
theorem enum_t : enumOf [.tuple xs] = some (enumL 0 xs) := rfl
theorem enumL_nil {n : Nat} : enumL n [] = [] := rfl
theorem enumL_cons {n : Nat} : enumL n (d :: xs) = .tuple [.int n, d] :: enumL (n + 1) xs := rfl
theorem wm_dic {gs : List (Md D × Md D)} {ρ : Env} {Q : D → Env → Prop} : Wm (gDic gs) ρ Q ↔ Wm (gKV gs) ρ fun es ρ1 => keysOk es = true ∧ Q (PyData.dict es) ρ1 := by
  show Wo ((gKV gs ρ).bind fun p => if keysOk p.1 = true then some (PyData.dict p.1, p.2) else none) _ ↔ _
  unfold Wm
  rw [wo_bind]
  refine Iff.of_eq (congrArg _ (funext fun p => ?_))
  by_cases h : keysOk p.1 = true
  · simp only [h, ↓reduceIte, wo_some, true_and]
  · simp only [h, ↓reduceIte, wo_none, false_and, Bool.false_eq_true]
theorem wm_kvn {ρ : Env} {Q : List (D × D) → Env → Prop} : Wm (gKV []) ρ Q ↔ Q [] ρ := wo_some
theorem wm_kvc {gk gv : Md D} {r : List (Md D × Md D)} {ρ : Env} {Q : List (D × D) → Env → Prop} : Wm (gKV ((gk, gv) :: r)) ρ Q ↔ Wm gk ρ fun k ρ1 => Wm gv ρ1 fun v ρ2 => Wm (gKV r) ρ2 fun es ρ3 => Q ((k, v) :: es) ρ3 := by
  show Wo ((gk ρ).bind fun p => (gv p.2).bind fun q => (gKV r q.2).bind fun z => some ((p.1, q.1) :: z.1, z.2)) _ ↔ _
  unfold Wm
  simp only [wo_bind, wo_some]
theorem seq_s : seqOf (.str a) = some (signsL a) := rfl
theorem mulT_si : mulT (.str a) (.int i) = if 0 ≤ i ∧ i ≤ 1000 ∧ a.length ≤ 1000 then some (.str (Txt.mul a i)) else none := rfl
theorem len_s : lenF [.str a] = if a.length ≤ 16777216 then some (.int a.length) else none := rfl
theorem ord_c {c : Nat} : ordF [.str ⟨#[c]⟩] = some (.int c) := rfl
theorem str_i : strF [.int i] = if i.natAbs.log2 < 1920 then some (.str (toString i)) else none := rfl
theorem k_lb : L2.kitB "list" "bool" = some false := by decide +kernel
theorem k_li : L2.kitB "list" "int" = some false := by decide +kernel
theorem k_ls : L2.kitB "list" "str" = some false := by decide +kernel
theorem k_tb : L2.kitB "tuple" "bool" = some false := by decide +kernel
theorem k_ti : L2.kitB "tuple" "int" = some false := by decide +kernel
theorem k_ts : L2.kitB "tuple" "str" = some false := by decide +kernel
theorem k_db : L2.kitB "dict" "bool" = some false := by decide +kernel
theorem k_di : L2.kitB "dict" "int" = some false := by decide +kernel
theorem k_ds : L2.kitB "dict" "str" = some false := by decide +kernel
theorem k_lt : L2.kitB "list" "tuple" = some false := by decide +kernel
theorem k_tl : L2.kitB "tuple" "list" = some false := by decide +kernel
theorem ty_d {es : List (D × D)} : tyD (.dict es) = "dict" := rfl
theorem wm_reve {a : Md D} {ρ : Env} {Q : List D → Env → Prop} : Wm (gReve a) ρ Q ↔ Wm a ρ fun x ρ1 => Wo (revOf x) fun ds => Q ds ρ1 := by
  show Wo ((a ρ).bind fun p => (revOf p.1).bind fun ds => some (ds, p.2)) _ ↔ _
  unfold Wm
  simp only [wo_bind, wo_some]
theorem rev_l : revOf (.list xs) = some xs.reverse := rfl
theorem rev_t : revOf (.tuple xs) = some xs.reverse := rfl
theorem wm_opBL {f : D → D → Option D} {i : Nat} {g : Md D} {ρ : Env} {Q : D → Env → Prop} : Wm (gOpBL f i g) ρ Q ↔ Wo (peekOf ρ[i]?) fun _ => Wm g ρ fun x ρ1 => Wo (peekOf ρ1[i]?) fun d => Wo (f d x) fun r => flatD r = true ∧ Q r ρ1 := by
  have e : ∀ ρ : Env, peek ρ i = peekOf ρ[i]? := fun ρ => rfl
  show Wo ((peek ρ i).bind fun _ => (g ρ).bind fun p => (peek p.2 i).bind fun d => (f d p.1).bind fun r => if flatD r = true then some (r, p.2) else none) _ ↔ _
  unfold Wm
  simp only [wo_bind, e]
  refine Iff.of_eq (congrArg _ (funext fun _ => congrArg _ (funext fun p => congrArg _ (funext fun d => congrArg _ (funext fun r => ?_)))))
  by_cases h : flatD r = true
  · simp only [h, ↓reduceIte, wo_some, true_and]
  · simp only [h, ↓reduceIte, wo_none, false_and, Bool.false_eq_true]
theorem repr_l : reprF [.list xs] = if reprOk (.list xs) = true then some (.str (PyData.list xs).shown) else none := rfl
theorem sort_l : sortF [.list xs] = if DnSo.sortOk xs = true then some (.list (xs.mergeSort DnSo.leD3)) else none := rfl
theorem sum_l : sumF [.list xs] = (numsOf xs).bind fun ns => some (.int ns.sum) := rfl
/-- those that pass a test -/
theorem lc_filterA {α : Type} {vs : List Nat} {tg : D → Env → Option Env} {tt : Md Bool} {te : Md D} (h f : α → D) (p : α → Bool) {ρ : Env} {Q : List D × Env → Prop} : ∀ (xs : List α), (∀ x ∈ xs, Wo (tg (h x) ρ) fun ρ1 => Wm tt ρ1 fun b ρ2 => b = p x ∧ (b = true → Wm te ρ2 fun y ρ3 => y = f x ∧ wipeE ρ3 vs = ρ) ∧ (b = false → wipeE ρ2 vs = ρ)) → Q ((xs.filter p).map f, ρ) → Wo (lcD vs tg tt te (xs.map h) ρ) Q
  | [], _, q => lc_nil.mpr q
  | d :: ds, hs, q => by
    rw [List.map_cons, lc_cons]
    refine wo_mono (hs d List.mem_cons_self) fun ρ1 h1 => ?_
    refine wo_mono h1 fun b h2 => ?_
    obtain ⟨h3, h4, h5⟩ := h2
    rw [List.filter_cons] at q
    rw [← h3] at q
    cases hb : b.1 with
    | true =>
      rw [hb] at q
      rw [if_pos rfl] at q ⊢
      refine wo_mono (h4 hb) fun y h6 => ?_
      dsimp only at h6 ⊢
      rw [h6.2]
      refine lc_filterA h f p (Q := fun r => Q (y.1 :: r.1, r.2)) ds (fun d' hd => hs d' (List.mem_cons_of_mem _ hd)) ?_
      rw [h6.1]
      exact q
    | false =>
      rw [hb] at q
      rw [if_neg (by decide)] at q ⊢
      rw [h5 hb]
      exact lc_filterA h f p ds (fun d' hd => hs d' (List.mem_cons_of_mem _ hd)) q
end
end Dm
set_option maxHeartbeats 2000000
/-! words for reckoning: dicts of one's own, extend -/
namespace Dm
open PySem Dn DnSo
def dOwn : Option (Option Cell) → Option (Bool × List (D × D))
  | some (some (.own b (.dict es))) => some (b, es)
  | _ => none
def lOwn : Option (Option Cell) → Option (Bool × List D)
  | some (some (.own b (.list ds))) => some (b, ds)
  | _ => none
section
variable {ρ : Env} {Q : D → Env → Prop} {R : Fl → Env → Prop} {i : Nat}
theorem dOwn_own {b : Bool} {es : List (D × D)} : dOwn (some (some (.own b (.dict es)))) = some (b, es) := rfl
theorem lOwn_own {b : Bool} {ds : List D} : lOwn (some (some (.own b (.list ds)))) = some (b, ds) := rfl
theorem dic_cases (o : Option (Option Cell)) : (∃ b es, o = some (some (.own b (.dict es)))) ∨ (dOwn o = none ∧ ∀ b es, o ≠ some (some (.own b (.dict es)))) := by
  rcases o with _ | _ | d | ⟨b, d⟩
  · exact .inr ⟨rfl, fun _ _ h => by cases h⟩
  · exact .inr ⟨rfl, fun _ _ h => by cases h⟩
  · exact .inr ⟨rfl, fun _ _ h => by cases h⟩
  · cases d with
    | dict es => exact .inl ⟨b, es, rfl⟩
    | _ => exact .inr ⟨rfl, fun _ _ h => by cases h⟩
theorem lst_cases (o : Option (Option Cell)) : (∃ b ds, o = some (some (.own b (.list ds)))) ∨ (lOwn o = none ∧ ∀ b ds, o ≠ some (some (.own b (.list ds)))) := by
  rcases o with _ | _ | d | ⟨b, d⟩
  · exact .inr ⟨rfl, fun _ _ h => by cases h⟩
  · exact .inr ⟨rfl, fun _ _ h => by cases h⟩
  · exact .inr ⟨rfl, fun _ _ h => by cases h⟩
  · cases d with
    | list ds => exact .inl ⟨b, ds, rfl⟩
    | _ => exact .inr ⟨rfl, fun _ _ h => by cases h⟩
theorem own_cases (o : Option (Option Cell)) : (∃ b d, o = some (some (.own b d))) ∨ (cOwn o = none ∧ ∀ b d, o ≠ some (some (.own b d))) := by
  rcases o with _ | _ | d | ⟨b, d⟩
  · exact .inr ⟨rfl, fun _ _ h => by cases h⟩
  · exact .inr ⟨rfl, fun _ _ h => by cases h⟩
  · exact .inr ⟨rfl, fun _ _ h => by cases h⟩
  · exact .inl ⟨b, d, rfl⟩
def putO (es : List (D × D)) (k v : D) : Option (List (D × D)) := if keyTup k = true ∧ (nkD k).isSome = true ∧ es.length < 16777216 then some (putD es k v) else none
def atO (es : List (D × D)) (k : D) : Option D := if keyTup k = true ∧ (nkD k).isSome = true then atD es k else none
def getO (es : List (D × D)) (k x : D) : Option D := if keyTup k = true ∧ (nkD k).isSome = true then some ((atD es k).getD x) else none
def srtO (es : List (D × D)) : Option D := if sortOk (es.map (·.1)) = true then some (.list ((es.map (·.1)).mergeSort leD3)) else none
theorem wm_newD : Wm gNewD ρ Q ↔ Q (.dict []) ρ := wo_some
theorem ws_setK {gv gk : Md D} : Ws (sSetK i gv gk) ρ R ↔ Wm gv ρ fun v ρ1 => Wo (cOwn ρ1[i]?) fun _ => Wm gk ρ1 fun k ρ2 => Wo (dOwn ρ2[i]?) fun c => Wo (putO c.2 k v) fun es => R .nx (ρ2.set i (some (.own c.1 (.dict es)))) := by
  unfold Ws Wm sSetK
  rw [wo_bind]
  refine Iff.of_eq (congrArg _ (funext fun p => ?_))
  try dsimp only
  rcases own_cases p.2[i]? with ⟨b, d, h⟩ | ⟨h, hn⟩
  · split
    · rw [h, cOwn_own, wo_some, wo_bind]
      refine congrArg _ (funext fun q => ?_)
      try dsimp only
      rcases dic_cases q.2[i]? with ⟨b, es, h2⟩ | ⟨h2, hn⟩
      · split
        · rename_i e
          rw [h2] at e
          cases e
          rw [h2, dOwn_own, wo_some]
          unfold putO
          simp only [wo_ite, wo_some, wo_none]
        · rename_i e
          exact absurd h2 (e _ _)
      · split
        · rename_i e
          exact absurd e (hn _ _)
        · rw [h2, wo_none, wo_none]
    · rename_i e
      exact absurd h (e _ _)
  · split
    · rename_i e
      exact absurd e (hn _ _)
    · rw [h, wo_none, wo_none]
theorem wm_get {gk gx : Md D} : Wm (gGet i gk gx) ρ Q ↔ Wo (dOwn ρ[i]?) fun _ => Wm gk ρ fun k ρ1 => Wm gx ρ1 fun x ρ2 => Wo (dOwn ρ2[i]?) fun c => Wo (getO c.2 k x) fun r => Q r ρ2 := by
  unfold Wm gGet
  rcases dic_cases ρ[i]? with ⟨b, es, h⟩ | ⟨h, hn⟩
  · split
    · rw [h, dOwn_own, wo_some, wo_bind]
      refine Iff.of_eq (congrArg _ (funext fun p => ?_))
      try dsimp only
      rw [wo_bind]
      refine congrArg _ (funext fun q => ?_)
      try dsimp only
      rcases dic_cases q.2[i]? with ⟨b, es, h2⟩ | ⟨h2, hn⟩
      · split
        · rename_i e
          rw [h2] at e
          cases e
          rw [h2, dOwn_own, wo_some]
          unfold getO
          simp only [wo_ite, wo_some, wo_none]
        · rename_i e
          exact absurd h2 (e _ _)
      · split
        · rename_i e
          exact absurd e (hn _ _)
        · rw [h2, wo_none, wo_none]
    · rename_i e
      exact absurd h (e _ _)
  · split
    · rename_i e
      exact absurd e (hn _ _)
    · rw [h, wo_none, wo_none]
theorem wm_ixK {gk : Md D} : Wm (gIxK i gk) ρ Q ↔ Wo (dOwn ρ[i]?) fun _ => Wm gk ρ fun k ρ1 => Wo (dOwn ρ1[i]?) fun c => Wo (atO c.2 k) fun r => Q r ρ1 := by
  unfold Wm gIxK
  rcases dic_cases ρ[i]? with ⟨b, es, h⟩ | ⟨h, hn⟩
  · split
    · rw [h, dOwn_own, wo_some, wo_bind]
      refine Iff.of_eq (congrArg _ (funext fun q => ?_))
      try dsimp only
      rcases dic_cases q.2[i]? with ⟨b, es, h2⟩ | ⟨h2, hn⟩
      · split
        · rename_i e
          rw [h2] at e
          cases e
          rw [h2, dOwn_own, wo_some]
          unfold atO
          simp only [wo_ite, wo_bind, wo_some, wo_none]
        · rename_i e
          exact absurd h2 (e _ _)
      · split
        · rename_i e
          exact absurd e (hn _ _)
        · rw [h2, wo_none, wo_none]
    · rename_i e
      exact absurd h (e _ _)
  · split
    · rename_i e
      exact absurd e (hn _ _)
    · rw [h, wo_none, wo_none]
theorem wm_sortN : Wm (gSortN i) ρ Q ↔ Wo (dOwn ρ[i]?) fun c => Wo (srtO c.2) fun r => Q r ρ := by
  unfold Wm gSortN
  rcases dic_cases ρ[i]? with ⟨b, es, h⟩ | ⟨h, hn⟩
  · split
    · rename_i e
      rw [h] at e
      cases e
      rw [h, dOwn_own, wo_some]
      unfold srtO
      simp only [wo_ite, wo_some, wo_none]
    · rename_i e
      exact absurd h (e _ _)
  · split
    · rename_i e
      exact absurd e (hn _ _)
    · rw [h, wo_none, wo_none]
theorem ws_ext {g : Md D} : Ws (sExt i g) ρ R ↔ Wo (lOwn ρ[i]?) fun _ => Wm g ρ fun d ρ1 => Wo (lOwn ρ1[i]?) fun c => Wo (lsD d) fun es => c.2.length + es.length ≤ 16777216 ∧ R .nx (ρ1.set i (some (.own c.1 (.list (c.2 ++ es))))) := by
  unfold Ws Wm sExt
  rcases lst_cases ρ[i]? with ⟨b, es, h⟩ | ⟨h, hn⟩
  · split
    · rw [h, lOwn_own, wo_some, wo_bind]
      refine Iff.of_eq (congrArg _ (funext fun q => ?_))
      try dsimp only
      rcases lst_cases q.2[i]? with ⟨b, es, h2⟩ | ⟨h2, hn⟩
      · split
        · rename_i e
          rw [h2] at e
          cases e
          rw [h2, lOwn_own, wo_some, wo_bind]
          refine congrArg _ (funext fun fs => ?_)
          try dsimp only
          rw [wo_ite, wo_some, wo_none]
          by_cases z : es.length + fs.length ≤ 16777216
          · rw [if_pos z]
            simp [z]
          · rw [if_neg z]
            simp [z]
        · rename_i e
          exact absurd h2 (e _ _)
      · split
        · rename_i e
          exact absurd e (hn _ _)
        · rw [h2, wo_none, wo_none]
    · rename_i e
      exact absurd h (e _ _)
  · split
    · rename_i e
      exact absurd e (hn _ _)
    · rw [h, wo_none, wo_none]
/-- a loop over items drawn by h: what holds ahead of each, what is asked of a turn -/
def stepQ (I : Env → Prop) (R : Fl → Env → Prop) : Fl → Env → Prop
  | .nx, ρ => I ρ
  | .cnt, ρ => I ρ
  | .brk, ρ => R .nx ρ
  | .ret d, ρ => R (.ret d) ρ
  | .rof d, ρ => R (.rof d) ρ
theorem step_nx {I : Env → Prop} : stepQ I R .nx ρ ↔ I ρ := Iff.rfl
theorem step_cnt {I : Env → Prop} : stepQ I R .cnt ρ ↔ I ρ := Iff.rfl
theorem step_brk {I : Env → Prop} : stepQ I R .brk ρ ↔ R .nx ρ := Iff.rfl
theorem step_ret {I : Env → Prop} {d : D} : stepQ I R (.ret d) ρ ↔ R (.ret d) ρ := Iff.rfl
theorem step_rof {I : Env → Prop} {d : D} : stepQ I R (.rof d) ρ ↔ R (.rof d) ρ := Iff.rfl
theorem for_go {α : Type} (h : α → D) {tg : D → Env → Option Env} {b : Sd} (I : List α → Env → Prop) : ∀ (xs p : List α) (ρ : Env), I p ρ →
    (∀ (q : List α) (x : α) (r : List α) (ρ : Env), p ++ xs = q ++ x :: r → I q ρ → Wo (tg (h x) ρ) fun ρ1 => Ws b ρ1 (stepQ (I (q ++ [x])) R)) →
    (∀ ρ', I (p ++ xs) ρ' → R .nx ρ') → Ws (forD tg b (xs.map h)) ρ R
  | [], p, ρ, h0, _, fin => for_nil.mpr (fin ρ (by rw [List.append_nil]; exact h0))
  | x :: xs, p, ρ, h0, st, fin => by
    rw [List.map_cons, for_cons]
    refine wo_mono (st p x xs ρ rfl h0) fun ρ1 h1 => ws_mono h1 fun f ρ2 h2 => ?_
    have go : I (p ++ [x]) ρ2 → Ws (forD tg b (xs.map h)) ρ2 R := fun h3 => for_go h I xs (p ++ [x]) ρ2 h3 (fun q y r ρ' e => st q y r ρ' (by rw [← e]; simp)) fun ρ' h4 => fin ρ' (by simpa using h4)
    cases f with
    | nx => exact go h2
    | cnt => exact go h2
    | brk => exact h2
    | ret d => exact h2
    | rof d => exact h2
theorem ws_forA {α : Type} (h : α → D) {xs : List α} {tg : D → Env → Option Env} {b : Sd} (I : List α → Env → Prop) (h0 : I [] ρ)
    (st : ∀ (q : List α) (x : α) (r : List α) (ρ : Env), xs = q ++ x :: r → I q ρ → Wo (tg (h x) ρ) fun ρ1 => Ws b ρ1 (stepQ (I (q ++ [x])) R))
    (fin : ∀ ρ', I xs ρ' → R .nx ρ') : Ws (forD tg b (xs.map h)) ρ R := for_go h I xs [] ρ h0 st fin
theorem for_en {α : Type} (h : α → D) {tg : D → Env → Option Env} {b : Sd} (I : List α → Env → Prop) : ∀ (xs p : List α) (ρ : Env), I p ρ →
    (∀ (q : List α) (x : α) (r : List α) (ρ : Env), p ++ xs = q ++ x :: r → I q ρ → Wo (tg (.tuple [.int q.length, h x]) ρ) fun ρ1 => Ws b ρ1 (stepQ (I (q ++ [x])) R)) →
    (∀ ρ', I (p ++ xs) ρ' → R .nx ρ') → Ws (forD tg b (enumL p.length (xs.map h))) ρ R
  | [], p, ρ, h0, _, fin => for_nil.mpr (fin ρ (by rw [List.append_nil]; exact h0))
  | x :: xs, p, ρ, h0, st, fin => by
    rw [List.map_cons, enumL_cons, for_cons]
    refine wo_mono (st p x xs ρ rfl h0) fun ρ1 h1 => ws_mono h1 fun f ρ2 h2 => ?_
    have e : p.length + 1 = (p ++ [x]).length := by rw [List.length_append, List.length_singleton]
    have go : I (p ++ [x]) ρ2 → Ws (forD tg b (enumL (p.length + 1) (xs.map h))) ρ2 R := fun h3 => by
      rw [e]
      exact for_en h I xs (p ++ [x]) ρ2 h3 (fun q y r ρ' e => st q y r ρ' (by rw [← e]; simp)) fun ρ' h4 => fin ρ' (by simpa using h4)
    cases f with
    | nx => exact go h2
    | cnt => exact go h2
    | brk => exact h2
    | ret d => exact h2
    | rof d => exact h2
theorem ws_forEn {α : Type} (h : α → D) {xs : List α} {tg : D → Env → Option Env} {b : Sd} (I : List α → Env → Prop) (h0 : I [] ρ)
    (st : ∀ (q : List α) (x : α) (r : List α) (ρ : Env), xs = q ++ x :: r → I q ρ → Wo (tg (.tuple [.int q.length, h x]) ρ) fun ρ1 => Ws b ρ1 (stepQ (I (q ++ [x])) R))
    (fin : ∀ ρ', I xs ρ' → R .nx ρ') : Ws (forD tg b (enumL 0 (xs.map h))) ρ R := for_en h I xs [] ρ h0 st fin
theorem rng_map (n : Nat) : rngL 0 n = (List.range n).map fun i : Nat => PyData.int i := by
  unfold rngL
  exact List.map_congr_left fun i _ => by rw [Int.zero_add]
theorem rng_split {n i : Nat} {p r : List Nat} (e : List.range n = p ++ i :: r) : p.length = i ∧ i < n := by
  have hl := congrArg List.length e
  rw [List.length_range, List.length_append, List.length_cons] at hl
  have h1 : (List.range n)[p.length]? = some i := by rw [e]; simp
  rw [List.getElem?_range (by omega)] at h1
  have := Option.some.inj h1
  omega
theorem lsD_list {ds : List D} : lsD (.list ds) = some ds := rfl
end
end Dm
set_option maxHeartbeats 2000000
/-! words for reckoning: groups, dicts that stand, list.index -/
namespace Dm
open PySem Dn DnSo
section
variable {ρ : Env} {Q : D → Env → Prop} {R : Fl → Env → Prop} {i : Nat}
theorem empty_own : emptyOwn (some (some (.own false (.dict [])))) = true := rfl
theorem ws_grp {p : Nat} {gi : Md (List D)} {gt : D → Env → Option Env} {g0 gk gx : Md D} : Ws (sGrp i gi gt p g0 gk gx) ρ R ↔ Wm gi ρ fun ds ρ1 => emptyOwn ρ1[i]? = true ∧ Wo (grpD gt p g0 gk gx ds [] (ρ1.set i none)) fun r => Wo (canSet r.2[i]?) fun _ => R .nx (r.2.set i (some (.val (.dict r.1)))) := by
  unfold Ws Wm sGrp
  rw [wo_bind]
  refine Iff.of_eq (congrArg _ (funext fun q => ?_))
  try dsimp only
  by_cases h : emptyOwn q.2[i]? = true
  · rw [if_pos h]
    simp only [wo_bind, wo_some, setC_eq, h, true_and]
  · rw [if_neg h, wo_none]
    simp [h]
theorem grp_forA {α : Type} (h : α → D) (E : List α → List (D × D)) (I : List α → Env → Prop) {gt : D → Env → Option Env} {p : Nat} {g0 gk gx : Md D} {Q : List (D × D) × Env → Prop} {xs : List α} (h0 : I [] ρ)
    (st : ∀ (q : List α) (x : α) (r : List α) (ρ : Env), xs = q ++ x :: r → I q ρ → Wo (gt (h x) ρ) fun ρ1 => Wm g0 ρ1 fun k0 ρ2 => Wo (canSet ρ2[p]?) fun _ => Wm gk (ρ2.set p (some (.val k0))) fun k ρ3 => Wm gx ρ3 fun d ρ4 =>
      (keyTup k = true ∧ (nkD k).isSome = true ∧ (E q).length < 16777216 ∧ lenG (E q) k < 16777216) ∧ appG (E q) k d = E (q ++ [x]) ∧ I (q ++ [x]) ρ4)
    (fin : ∀ ρ', I xs ρ' → Q (E xs, ρ')) : Wo (grpD gt p g0 gk gx (xs.map h) (E []) ρ) Q := by
  have go : ∀ (ys q : List α) (ρ : Env), xs = q ++ ys → I q ρ → Wo (grpD gt p g0 gk gx (ys.map h) (E q) ρ) Q := by
    intro ys
    induction ys with
    | nil =>
      intro q ρ e hI
      rw [List.append_nil] at e
      subst e
      exact wo_some.mpr (fin ρ hI)
    | cons x ys ih =>
      intro q ρ e hI
      have s := st q x ys ρ e hI
      show Wo ((gt (h x) ρ).bind fun ρ1 => (g0 ρ1).bind fun q0 => (setC p (.val q0.1) q0.2).bind fun ρ2 => (gk ρ2).bind fun q1 => (gx q1.2).bind fun q2 =>
        if keyTup q1.1 = true ∧ (nkD q1.1).isSome = true ∧ (E q).length < 16777216 ∧ lenG (E q) q1.1 < 16777216 then grpD gt p g0 gk gx (ys.map h) (appG (E q) q1.1 q2.1) q2.2 else none) Q
      unfold Wm at s
      simp only [wo_bind, setC_eq, wo_some]
      refine wo_mono s fun ρ1 s => wo_mono s fun q0 s => wo_mono s fun _ s => wo_mono s fun q1 s => wo_mono s fun q2 s => ?_
      obtain ⟨c, e2, hI2⟩ := s
      rw [if_pos c, e2]
      exact ih (q ++ [x]) _ (by rw [e]; simp) hI2
  exact go xs [] ρ rfl h0
theorem wm_getD {go gk gx : Md D} : Wm (gGetD go gk gx) ρ Q ↔ Wm go ρ fun o ρ1 => Wm gk ρ1 fun k ρ2 => Wm gx ρ2 fun x ρ3 => Wo (getG o k x) fun r => Q r ρ3 := by
  unfold Wm gGetD
  simp only [wo_bind, wo_some]
theorem wm_ind {go gx : Md D} : Wm (gInd go gx) ρ Q ↔ Wm go ρ fun o ρ1 => Wm gx ρ1 fun x ρ2 => Wo (indF o x) fun r => Q r ρ2 := by
  unfold Wm gInd
  simp only [wo_bind, wo_some]
end
theorem add2_ll {xs ys : List D} : addL2 (.list xs) (.list ys) = if xs.length + ys.length ≤ 16777216 then some (.list (xs ++ ys)) else none := rfl
theorem three_c {a b c : D} : three [a, b, c] = some (a, b, c) := rfl
theorem ws_par3 {ρ : Env} {R : Fl → Env → Prop} {i j l : Nat} {gs : Md (List D)} : Ws (sPar3 i j l gs) ρ R ↔ Wm gs ρ fun ds ρ0 => Wo (three ds) fun t => Wo (canSet ρ0[i]?) fun _ => Wo (canSet (ρ0.set i (some (.val t.1)))[j]?) fun _ => Wo (canSet ((ρ0.set i (some (.val t.1))).set j (some (.val t.2.1)))[l]?) fun _ => R .nx (((ρ0.set i (some (.val t.1))).set j (some (.val t.2.1))).set l (some (.val t.2.2))) := by
  unfold Ws Wm sPar3
  simp only [wo_bind, wo_some, setC_eq]
theorem lOwnD_own {b : Bool} {ds : List D} : lOwnD (some (some (.own b (.list ds)))) = some ds := rfl
theorem wm_lcW {ρ : Env} {Q : D → Env → Prop} {i0 : Nat} {vs : List Nat} {gt : D → Env → Option Env} {gc : Md Bool} {ge : Md D} : Wm (gLcW i0 vs gt gc ge) ρ Q ↔ Wo (lOwnD ρ[i0]?) fun ds => (ds.length ≤ 16777216 ∧ vs.all (notOwn ρ) = true ∧ i0 ∉ vs) ∧ Wo (lcW i0 vs gt gc ge ds.length 0 (wipeE ρ vs)) fun r => Q (.list r.1) (backE ρ vs r.2) := by
  unfold Wm gLcW
  rw [wo_bind]
  refine Iff.of_eq (congrArg _ (funext fun ds => ?_))
  by_cases h : ds.length ≤ 16777216 ∧ vs.all (notOwn ρ) = true ∧ i0 ∉ vs
  · rw [if_pos h, wo_bind]
    simp only [wo_some, h, true_and]
    simp
  · rw [if_neg h, wo_none]
    simp only [h, false_and]
theorem lcW_filterA {α : Type} {i0 : Nat} {vs : List Nat} {gt : D → Env → Option Env} {gc : Md Bool} {ge : Md D} (h f : α → D) (p : α → Bool) {ρ : Env} {Q : List D × Env → Prop} {xs : List α} (hρ : lOwnD ρ[i0]? = some (xs.map h))
    (st : ∀ x ∈ xs, Wo (gt (h x) ρ) fun ρ1 => Wm gc ρ1 fun b ρ2 => b = p x ∧ (b = true → Wm ge ρ2 fun y ρ3 => y = f x ∧ wipeE ρ3 vs = ρ) ∧ (b = false → wipeE ρ2 vs = ρ)) (q : Q ((xs.filter p).map f, ρ)) : Wo (lcW i0 vs gt gc ge xs.length 0 ρ) Q := by
  have go : ∀ (n : Nat) (pre ys : List α) (Q : List D × Env → Prop), xs = pre ++ ys → n = ys.length → Q ((ys.filter p).map f, ρ) → Wo (lcW i0 vs gt gc ge n pre.length ρ) Q := by
    intro n
    induction n with
    | zero =>
      intro pre ys Q e hn q
      have : ys = [] := List.eq_nil_of_length_eq_zero hn.symm
      subst this
      show Wo ((lOwnD ρ[i0]?).bind fun ds => if ds.length ≤ pre.length then some ([], ρ) else none) Q
      rw [hρ, Option.bind_some, if_pos (by rw [List.length_map, e]; simp)]
      exact wo_some.mpr q
    | succ n ih =>
      intro pre ys Q e hn q
      cases ys with
      | nil => simp at hn
      | cons x ys =>
        have hd : (xs.map h)[pre.length]? = some (h x) := by rw [List.getElem?_map, e]; simp
        show Wo ((lOwnD ρ[i0]?).bind fun ds => match ds[pre.length]? with
          | none => some ([], ρ)
          | some d => (gt d ρ).bind fun ρ1 => (gc ρ1).bind fun p => if p.1 = true then (ge p.2).bind fun q => (lcW i0 vs gt gc ge n (pre.length + 1) (wipeE q.2 vs)).bind fun r => some (q.1 :: r.1, r.2) else lcW i0 vs gt gc ge n (pre.length + 1) (wipeE p.2 vs)) Q
        rw [hρ, Option.bind_some, hd]
        show Wo ((gt (h x) ρ).bind _) Q
        rw [wo_bind]
        have s := st x (by rw [e]; simp)
        refine wo_mono s fun ρ1 s1 => ?_
        rw [wo_bind]
        refine wo_mono s1 fun c s2 => ?_
        obtain ⟨hb, h1, h2⟩ := s2
        have e2 : (pre ++ [x]).length = pre.length + 1 := by simp
        rw [← e2]
        have e3 : xs = (pre ++ [x]) ++ ys := by rw [e]; simp
        cases hc : c.1 with
        | true =>
          rw [if_pos rfl, wo_bind]
          refine wo_mono (h1 hc) fun y s3 => ?_
          rw [s3.2, wo_bind]
          refine ih (pre ++ [x]) ys _ e3 (by simpa using hn) ?_
          rw [wo_some, s3.1]
          rw [List.filter_cons_of_pos (by rw [← hb, hc])] at q
          exact q
        | false =>
          rw [if_neg (by decide), h2 hc]
          refine ih (pre ++ [x]) ys _ e3 (by simpa using hn) ?_
          rw [List.filter_cons_of_neg (by rw [← hb, hc]; decide)] at q
          exact q
  exact go xs.length [] xs Q rfl rfl q
theorem ix3 {a b c d : D} {r : List D} : ixA (a :: b :: c :: d :: r) 3 = some d := rfl
theorem ix4 {a b c d e : D} {r : List D} : ixA (a :: b :: c :: d :: e :: r) 4 = some e := rfl
theorem ix_m2 (a b c : D) : ixA [a, b, c] (-2) = some b := rfl
theorem ix_m1 (a b c : D) : ixA [a, b, c] (-1) = some c := rfl
theorem ix_p2 (a b : D) : ixA [a, b] (-2) = some a := rfl
theorem ix_p1 (a b : D) : ixA [a, b] (-1) = some b := rfl
end Dm
set_option maxHeartbeats 4000000
/-! plain facts: values, rows, their order, indexes -/
namespace Lw
open PySem Dn Dm
theorem wo_ix {xs : List D} {i : Int} {Q : D → Prop} (h0 : 0 ≤ i) (h1 : i < xs.length) (q : ∀ x ∈ xs, Q x) : Wo (ixA xs i) Q := by
  unfold ixA
  rw [if_pos h0]
  have hl : i.toNat < xs.length := by omega
  rw [List.getElem?_eq_getElem hl, wo_some]
  exact q _ (List.getElem_mem hl)
/-- a value -/
def gv (d : D) : Prop := flatD d = true ∧ SeqAt.shaped d = true
theorem gv_none : gv .none := ⟨rfl, by decide⟩
theorem gv_bool (b : Bool) : gv (.bool b) := ⟨rfl, by cases b <;> decide⟩
theorem gv_int (i : Int) : gv (.int i) := ⟨rfl, by simp [SeqAt.shaped, PyData.canLay0, PyData.depth]⟩
theorem eqT_int (a b : Int) : eqT (.int a) (.int b) = some (decide (a = b)) := rfl
theorem eqT_str (a b : Str) : eqT (.str a) (.str b) = some (decide (a = b)) := rfl
theorem eqT_bool (a b : Bool) : eqT (.bool a) (.bool b) = some (decide (a = b)) := rfl
theorem ltT_int (a b : Int) : ltT (.int a) (.int b) = some (decide (a < b)) := rfl
theorem ltT_str (a b : Str) : ltT (.str a) (.str b) = some (decide (a.cps.toList < b.cps.toList)) := rfl
/-! ### the start of a draw -/
theorem log_ok {i j : Int} (a b : Nat) (ha : i.natAbs < 2 ^ a) (hb : j.natAbs < 2 ^ b) (h : a + b + 2 ≤ 1000000) : i.natAbs.log2 + j.natAbs.log2 < 1000000 := by
  have l : ∀ (n k : Nat), n < 2 ^ k → n.log2 ≤ k := fun n k h => by
    by_cases z : n = 0
    · subst z; simp
    · exact Nat.le_of_lt ((Nat.log2_lt z).mpr h)
  have h1 := l _ _ ha
  have h2 := l _ _ hb
  omega
theorem nab {m : Int} {b : Nat} (h0 : 0 ≤ m) (h : m < 2 ^ b) : m.natAbs < 2 ^ b := by
  have h2 : ((m.natAbs : Nat) : Int) = m := Int.natAbs_of_nonneg h0
  have h3 : ((m.natAbs : Nat) : Int) < ((2 ^ b : Nat) : Int) := by
    rw [h2]
    push_cast
    exact h
  exact Int.ofNat_lt.mp h3
/-! ### the order of values and of rows -/
def rk : D → Int
  | .none => 0
  | .bool b => 1 + (if b then 1 else 0)
  | .int _ => 3
  | _ => 4
def ltV (a b : D) : Bool := if rk a ≠ rk b then decide (rk a < rk b) else match a, b with
  | .int i, .int j => decide (i < j)
  | .str x, .str y => decide (x.cps.toList < y.cps.toList)
  | _, _ => false
def vo : D → D
  | .none => .tuple [.int 0, .int 0]
  | .bool b => .tuple [.int 1, .int (if b then 1 else 0)]
  | .int i => .tuple [.int 2, .int i]
  | d => .tuple [.int 3, d]
theorem gv_cases {d : D} (h : gv d) : d = .none ∨ (∃ b, d = .bool b) ∨ (∃ i, d = .int i) ∨ ∃ s, d = .str s := by
  cases d with
  | none => exact .inl rfl
  | bool b => exact .inr (.inl ⟨b, rfl⟩)
  | int i => exact .inr (.inr (.inl ⟨i, rfl⟩))
  | str s => exact .inr (.inr (.inr ⟨s, rfl⟩))
  | list _ => cases h.1
  | tuple _ => cases h.1
  | dict _ => cases h.1
theorem ltV_irr {a : D} (ha : gv a) : ltV a a = false := by
  unfold ltV
  rcases gv_cases ha with rfl | ⟨p, rfl⟩ | ⟨i, rfl⟩ | ⟨s, rfl⟩ <;> simp
theorem gv5 {d : D} (h : gv d) : d = .none ∨ d = .bool true ∨ d = .bool false ∨ (∃ i, d = .int i) ∨ ∃ s, d = .str s := by
  rcases gv_cases h with rfl | ⟨b, rfl⟩ | h | h
  · exact .inl rfl
  · cases b
    · exact .inr (.inr (.inl rfl))
    · exact .inr (.inl rfl)
  · exact .inr (.inr (.inr (.inl h)))
  · exact .inr (.inr (.inr (.inr h)))
theorem str_tri (s t : Str) : (s == t) = (!decide (s.cps.toList < t.cps.toList) && !decide (t.cps.toList < s.cps.toList)) := by
  by_cases h : s = t
  · subst h
    have : ¬ (s.cps.toList < s.cps.toList) := List.lt_irrefl _
    simp only [beq_self_eq_true, this, decide_false, Bool.not_false, Bool.and_self]
  · have h1 : (s == t) = false := by simpa using h
    rw [h1]
    by_cases h2 : s.cps.toList < t.cps.toList
    · simp only [h2, decide_true, Bool.not_true, Bool.false_and]
    · by_cases h3 : t.cps.toList < s.cps.toList
      · simp only [h3, decide_true, Bool.not_true, Bool.and_false]
      · exact absurd (PySem.W.str_of_cps (List.le_antisymm (List.not_lt.mp h3) (List.not_lt.mp h2))) h
/-- the same -/
theorem eqv_vo {a b : D} (ha : gv a) (hb : gv b) : PyData.eqv (vo a) (vo b) = (!ltV a b && !ltV b a) := by
  rcases gv5 ha with rfl | rfl | rfl | ⟨i, rfl⟩ | ⟨s, rfl⟩ <;> rcases gv5 hb with rfl | rfl | rfl | ⟨j, rfl⟩ | ⟨t, rfl⟩ <;> simp only [vo, PyData.eqv, PyData.eqvAll, ltV, rk] <;> first | rfl | skip
  · simp only [ne_eq, not_true_eq_false, ↓reduceIte, Bool.and_true, beq_self_eq_true, Bool.true_and]
    rw [Bool.eq_iff_iff]
    simp
    omega
  · simp only [ne_eq, not_true_eq_false, ↓reduceIte, Bool.and_true, beq_self_eq_true, Bool.true_and]
    exact str_tri s t
theorem ltB_vo {a b : D} (ha : gv a) (hb : gv b) (h : PyData.eqv (vo a) (vo b) = false) : DnLt.ltB (vo a) (vo b) = some (ltV a b) := by
  rcases gv5 ha with rfl | rfl | rfl | ⟨i, rfl⟩ | ⟨s, rfl⟩ <;> rcases gv5 hb with rfl | rfl | rfl | ⟨j, rfl⟩ | ⟨t, rfl⟩ <;> simp only [vo, PyData.eqv, PyData.eqvAll, ltV, rk, DnLt.ltB, DnLt.ltA] at h ⊢ <;> first | rfl | (exact absurd h (by decide)) | skip
  · simp only [beq_self_eq_true, ↓reduceIte, ne_eq, not_true_eq_false, Bool.and_true, Bool.true_and] at h ⊢
    exact if_neg (by rw [h]; decide)
  · simp only [beq_self_eq_true, ↓reduceIte, ne_eq, not_true_eq_false, Bool.and_true, Bool.true_and] at h ⊢
    exact if_neg (by rw [h]; decide)
/-- rows -/
def ltR : List D → List D → Bool
  | [], [] => false
  | [], _ :: _ => true
  | _ :: _, [] => false
  | x :: xs, y :: ys => if ltV x y = true then true else if ltV y x = true then false else ltR xs ys
theorem ltA_vo : ∀ {xs ys : List D}, (∀ v ∈ xs, gv v) → (∀ v ∈ ys, gv v) → DnLt.ltA (xs.map vo) (ys.map vo) = some (ltR xs ys)
  | [], [], _, _ => rfl
  | [], _ :: _, _, _ => rfl
  | _ :: _, [], _, _ => rfl
  | x :: xs, y :: ys, hx, hy => by
    have gx := hx x List.mem_cons_self
    have gy := hy y List.mem_cons_self
    have ih := ltA_vo (xs := xs) (ys := ys) (fun v hv => hx v (List.mem_cons_of_mem _ hv)) fun v hv => hy v (List.mem_cons_of_mem _ hv)
    rw [List.map_cons, List.map_cons, DnLt.ltA, ltR, ih]
    have e := eqv_vo gx gy
    cases h : PyData.eqv (vo x) (vo y) with
    | true =>
      rw [h] at e
      have e2 : ltV x y = false ∧ ltV y x = false := by simpa using e.symm
      simp [e2.1, e2.2]
    | false =>
      rw [h] at e
      rw [if_neg (by decide), ltB_vo gx gy h]
      cases h1 : ltV x y with
      | true => simp
      | false =>
        rw [h1] at e
        have e2 : ltV y x = true := by simpa using e.symm
        simp [e2]
theorem eqvAll_vo : ∀ {xs ys : List D}, (∀ v ∈ xs, gv v) → (∀ v ∈ ys, gv v) → PyData.eqvAll (xs.map vo) (ys.map vo) = (!ltR xs ys && !ltR ys xs)
  | [], [], _, _ => by simp [PyData.eqvAll, ltR]
  | [], _ :: _, _, _ => by simp [PyData.eqvAll, ltR]
  | _ :: _, [], _, _ => by simp [PyData.eqvAll, ltR]
  | x :: xs, y :: ys, hx, hy => by
    have gx := hx x List.mem_cons_self
    have gy := hy y List.mem_cons_self
    have ih := eqvAll_vo (xs := xs) (ys := ys) (fun v hv => hx v (List.mem_cons_of_mem _ hv)) fun v hv => hy v (List.mem_cons_of_mem _ hv)
    have e := eqv_vo gx gy
    rw [List.map_cons, List.map_cons, PyData.eqvAll, ltR, ltR, ih, e]
    cases h1 : ltV x y <;> cases h2 : ltV y x <;> simp
theorem shaped_row {xs : List D} (h : ∀ v ∈ xs, gv v) : SeqAt.shaped (.tuple (xs.map vo)) = true := by
  have h1 : ∀ {xs : List D}, (∀ v ∈ xs, gv v) → PyData.canLayAll0 (xs.map vo) = true ∧ PyData.depthAll (xs.map vo) ≤ 1 := by
    intro xs
    induction xs with
    | nil => exact fun _ => ⟨rfl, by decide⟩
    | cons x xs ih =>
      intro h
      obtain ⟨i1, i2⟩ := ih fun v hv => h v (List.mem_cons_of_mem _ hv)
      have gx := h x List.mem_cons_self
      have z : (vo x).canLay0 = true ∧ (vo x).depth ≤ 1 := by
        rcases gv_cases gx with rfl | ⟨b, rfl⟩ | ⟨i, rfl⟩ | ⟨s, rfl⟩
        · exact ⟨by simp [vo, PyData.canLay0, PyData.canLayAll0], by simp [vo, PyData.depth, PyData.depthAll]⟩
        · exact ⟨by simp [vo, PyData.canLay0, PyData.canLayAll0], by simp [vo, PyData.depth, PyData.depthAll]⟩
        · exact ⟨by simp [vo, PyData.canLay0, PyData.canLayAll0], by simp [vo, PyData.depth, PyData.depthAll]⟩
        · have hs : (PyData.str s).canLay0 = true := SeqAt.canLay_of_shaped gx.2
          exact ⟨by simpa [vo, PyData.canLay0, PyData.canLayAll0] using hs, by simp [vo, PyData.depth, PyData.depthAll]⟩
      rw [List.map_cons, PyData.canLayAll0, PyData.depthAll, z.1, i1]
      exact ⟨rfl, by omega⟩
  obtain ⟨h2, h3⟩ := h1 h
  unfold SeqAt.shaped
  rw [PyData.canLay0, PyData.depth, h2]
  simp
  omega
theorem shaped_vo {a : D} (h : gv a) : SeqAt.shaped (vo a) = true := by
  rcases gv_cases h with rfl | ⟨b, rfl⟩ | ⟨i, rfl⟩ | ⟨s, rfl⟩
  · simp [vo, SeqAt.shaped, PyData.canLay0, PyData.canLayAll0, PyData.depth, PyData.depthAll]
  · simp [vo, SeqAt.shaped, PyData.canLay0, PyData.canLayAll0, PyData.depth, PyData.depthAll]
  · simp [vo, SeqAt.shaped, PyData.canLay0, PyData.canLayAll0, PyData.depth, PyData.depthAll]
  · have hs : (PyData.str s).canLay0 = true := SeqAt.canLay_of_shaped h.2
    simpa [vo, SeqAt.shaped, PyData.canLay0, PyData.canLayAll0, PyData.depth, PyData.depthAll] using hs
theorem vo_tup (a : D) : ∃ ds, vo a = .tuple ds := by cases a <;> exact ⟨_, rfl⟩
theorem eqT_tt {xs ys : List D} (h1 : SeqAt.shaped (.tuple xs) = true) (h2 : SeqAt.shaped (.tuple ys) = true) : eqT (.tuple xs) (.tuple ys) = some (PyData.eqv (.tuple xs) (.tuple ys)) := by
  show (if _ then _ else _) = _
  rw [if_pos ⟨h1, h2⟩]
theorem ltT_tt {xs ys : List D} (h1 : SeqAt.shaped (.tuple xs) = true) (h2 : SeqAt.shaped (.tuple ys) = true) : ltT (.tuple xs) (.tuple ys) = DnLt.ltB (.tuple xs) (.tuple ys) := by
  show (if _ then _ else _) = _
  rw [if_pos ⟨h1, h2⟩]
theorem eqT_vo {a b : D} (ha : gv a) (hb : gv b) : eqT (vo a) (vo b) = some (!ltV a b && !ltV b a) := by
  obtain ⟨xs, e1⟩ := vo_tup a
  obtain ⟨ys, e2⟩ := vo_tup b
  have h1 := shaped_vo ha
  have h2 := shaped_vo hb
  have h3 := eqv_vo ha hb
  rw [e1] at h1 h3 ⊢
  rw [e2] at h2 h3 ⊢
  rw [eqT_tt h1 h2, h3]
theorem ltA_eq : ∀ xs ys : List D, PyData.eqvAll xs ys = true → DnLt.ltA xs ys = some false
  | [], [], _ => rfl
  | [], _ :: _, h => by simp [PyData.eqvAll] at h
  | _ :: _, [], h => by simp [PyData.eqvAll] at h
  | x :: xs, y :: ys, h => by
    rw [PyData.eqvAll, Bool.and_eq_true] at h
    rw [DnLt.ltA, if_pos h.1]
    exact ltA_eq xs ys h.2
theorem ltT_vo {a b : D} (ha : gv a) (hb : gv b) : ltT (vo a) (vo b) = some (ltV a b) := by
  have h4 : DnLt.ltB (vo a) (vo b) = some (ltV a b) := by
    have h3 := eqv_vo ha hb
    cases h : PyData.eqv (vo a) (vo b) with
    | false => exact ltB_vo ha hb h
    | true =>
      rw [h] at h3
      have e2 : ltV a b = false ∧ ltV b a = false := by simpa using h3.symm
      rw [e2.1]
      obtain ⟨xs, e3⟩ := vo_tup a
      obtain ⟨ys, e4⟩ := vo_tup b
      rw [e3, e4] at h ⊢
      rw [PyData.eqv] at h
      rw [DnLt.ltB]
      exact ltA_eq xs ys h
  obtain ⟨xs, e1⟩ := vo_tup a
  obtain ⟨ys, e2⟩ := vo_tup b
  have h1 := shaped_vo ha
  have h2 := shaped_vo hb
  rw [e1] at h1 h4 ⊢
  rw [e2] at h2 h4 ⊢
  rw [ltT_tt h1 h2, h4]
theorem ixA_nat {α : Type} (xs : List α) (i : Nat) : ixA xs (i : Int) = xs[i]? := by
  unfold ixA
  rw [if_pos (Int.natCast_nonneg i)]
  rfl
theorem rng_eq (n : Nat) : rngL 0 n = (List.range' 0 n).map fun i : Nat => PyData.int i := by
  unfold rngL
  rw [List.range_eq_range']
  exact List.map_congr_left fun i _ => by rw [Int.zero_add]
theorem small_nat {n : Nat} (h : n ≤ 1000000000) : small62 (n : Int) = true := by
  unfold small62
  exact decide_eq_true ⟨by omega, by omega⟩
/-- a row of values -/
def gr (r : D) : Prop := ∃ xs, r = .tuple xs ∧ xs.length ≤ 1000 ∧ ∀ v ∈ xs, gv v
theorem cut_mem {α : Type} {xs : List α} {l h : Option Int} {v : α} (hv : v ∈ cutA xs l h) : v ∈ xs := List.mem_of_mem_drop (List.mem_of_mem_take hv)
theorem cut_len {α : Type} (xs : List α) (l h : Option Int) : (cutA xs l h).length ≤ xs.length := by
  unfold cutA
  rw [List.length_take, List.length_drop]
  omega
end Lw
set_option maxHeartbeats 4000000
/-! fields, types, places -/
namespace Lw
open PySem Dn Dm
/-- the three types -/
def kd (k : Str) : Prop := k = "flag" ∨ k = "whole" ∨ k = "text"
def tyB (k : Str) : D → Bool
  | .none => true
  | .bool _ => decide (k = "flag")
  | .int _ => decide (k = "whole")
  | .str _ => decide (k = "text")
  | _ => false
def tyV : D → D
  | .none => .none
  | .bool _ => .str "flag"
  | .int _ => .str "whole"
  | _ => .str "text"
/-- a text that may stand in a value -/
def signOk (c : Nat) : Bool := decide ((32 ≤ c ∧ c ≤ 126) ∧ c ≠ 37)
def textB (s : Str) : Bool := decide (s.length ≤ 40) && s.cps.toList.all signOk
/-- a value of the document -/
def isV : D → Bool
  | .none => true
  | .bool _ => true
  | .int i => decide (-1000000000 ≤ i ∧ i ≤ 1000000000)
  | .str s => textB s
  | _ => false
theorem isV_int {i : Int} (h : -1000000000 ≤ i ∧ i ≤ 1000000000) : isV (.int i) = true := decide_eq_true h
/-- a field -/
def fdD (p : Str × Str) : D := .tuple [.str p.1, .str p.2]
theorem fdD_inj : ∀ {as bs : List (Str × Str)}, as.map fdD = bs.map fdD → as = bs
  | [], [], _ => rfl
  | [], _ :: _, h => (by cases h)
  | _ :: _, [], h => (by cases h)
  | (a, b) :: as, (c, d) :: bs, h => by
    rw [List.map_cons, List.map_cons] at h
    injection h with h1 h2
    simp only [fdD, PyData.tuple.injEq, List.cons.injEq, PyData.str.injEq, and_true] at h1
    rw [h1.1, h1.2, fdD_inj h2]
def fitsB : List D → List (Str × Str) → Bool
  | [], [] => true
  | v :: vs, p :: ps => tyB p.2 v && fitsB vs ps
  | _, _ => false
def colAt : Nat → List (Str × Str) → Str → D
  | _, [], _ => .none
  | i, p :: ps, x => if p.1 = x then .int i else colAt (i + 1) ps x
theorem fits_len : ∀ {vs : List D} {ps : List (Str × Str)}, fitsB vs ps = true → vs.length = ps.length
  | [], [], _ => rfl
  | _ :: vs, _ :: ps, h => congrArg (· + 1) (fits_len (Bool.and_eq_true_iff.mp h).2)
  | [], _ :: _, h => (by cases h)
  | _ :: _, [], h => (by cases h)
theorem fits_snoc : ∀ {vs : List D} {ps : List (Str × Str)} {v : D} {p : Str × Str}, fitsB vs ps = true → tyB p.2 v = true → fitsB (vs ++ [v]) (ps ++ [p]) = true
  | [], [], v, p, _, h => by simp [fitsB, h]
  | w :: vs, q :: ps, v, p, g, h => by
    have g' := Bool.and_eq_true_iff.mp g
    exact Bool.and_eq_true_iff.mpr ⟨g'.1, fits_snoc g'.2 h⟩
  | [], _ :: _, _, _, h, _ => (by cases h)
  | _ :: _, [], _, _, h, _ => (by cases h)
theorem fits_get : ∀ {vs : List D} {ps : List (Str × Str)} {i : Nat} {v : D} {p : Str × Str}, fitsB vs ps = true → vs[i]? = some v → ps[i]? = some p → tyB p.2 v = true
  | v :: vs, p :: ps, 0, _, _, h, e1, e2 => by
    cases e1
    cases e2
    exact (Bool.and_eq_true_iff.mp h).1
  | _ :: vs, _ :: ps, i + 1, _, _, h, e1, e2 => fits_get (i := i) (Bool.and_eq_true_iff.mp h).2 e1 e2
  | [], _, _, _, _, _, e1, _ => (by simp at e1)
  | _ :: _, [], _, _, _, _, _, e2 => (by simp at e2)
/-- one value exchanged -/
theorem fits_swap : ∀ {vs : List D} {ps : List (Str × Str)} {i : Nat} {v : D} {p : Str × Str}, fitsB vs ps = true → ps[i]? = some p → fitsB (vs.take i ++ [v] ++ vs.drop (i + 1)) ps = tyB p.2 v
  | w :: vs, p :: ps, 0, v, _, h, e => by
    cases e
    have h' := (Bool.and_eq_true_iff.mp h).2
    simp [fitsB, h']
  | w :: vs, q :: ps, i + 1, v, p, h, e => by
    have h' := Bool.and_eq_true_iff.mp h
    have ih := fits_swap (i := i) (v := v) h'.2 e
    simp only [List.take_succ_cons, List.drop_succ_cons, List.cons_append, fitsB, h'.1, Bool.true_and]
    exact ih
  | [], [], _, _, _, _, e => (by simp at e)
  | [], _ :: _, _, _, _, h, _ => (by cases h)
  | _ :: _, [], _, _, _, h, _ => (by cases h)
theorem cut_take {α : Type} (xs : List α) (i : Nat) : cutA xs none (some (i : Int)) = xs.take i := by
  unfold cutA
  rw [HT.sIx_none, HT.sIx_nat, List.drop_zero, Nat.sub_zero]
  rw [List.take_eq_take_iff]
  omega
theorem cut_drop {α : Type} (xs : List α) (i : Nat) : cutA xs (some (i : Int)) none = xs.drop i := by
  unfold cutA
  rw [HT.sIx_none, HT.sIx_nat]
  rw [List.take_of_length_le (by rw [List.length_drop]; omega)]
  by_cases h : i ≤ xs.length
  · rw [Nat.min_eq_left h]
  · rw [Nat.min_eq_right (by omega), List.drop_length, List.drop_eq_nil_of_le (by omega)]
/-- how often: min(M, max(1, l)) -/
theorem times {l m : Nat} {M : Int} (hM : M = m) (h1 : 1 ≤ m) : ∃ n : Nat, (if (if (l : Int) > 1 then (l : Int) else 1) < M then (if (l : Int) > 1 then (l : Int) else 1) else M) = (n : Int) ∧ n ≤ m := by
  subst hM
  by_cases h1 : (l : Int) > 1
  · by_cases h2 : (l : Int) < m
    · exact ⟨l, by simp only [h1, h2, ↓reduceIte], by omega⟩
    · exact ⟨m, by simp only [h1, h2, ↓reduceIte], by omega⟩
  · by_cases h2 : (1 : Int) < m
    · exact ⟨1, by simp only [h1, h2, ↓reduceIte]; rfl, by omega⟩
    · exact ⟨m, by simp only [h1, h2, ↓reduceIte], by omega⟩
theorem cut_drop1 {α : Type} (xs : List α) (i : Nat) : cutA xs (some ((i : Int) + 1)) none = xs.drop (i + 1) := cut_drop xs (i + 1)
theorem cut_take1 {α : Type} (xs : List α) (i : Nat) : cutA xs none (some (1 + (i : Int))) = xs.take (1 + i) := by
  have := cut_take xs (1 + i)
  rwa [Int.natCast_add] at this
/-- a remainder as a number of places -/
theorem modN (s : Int) {m : Int} (h : 0 < m) : ∃ k : Nat, s % m = (k : Int) ∧ (k : Int) < m := ⟨(s % m).toNat, by have := Int.emod_nonneg s (show m ≠ 0 by omega); omega, by have := Int.emod_nonneg s (show m ≠ 0 by omega); have := Int.emod_lt_of_pos s h; omega⟩
theorem kinds_ok {x : D} (h : x ∈ ([.str "flag", .str "whole", .str "text"] : List D)) : ∃ k, x = .str k ∧ kd k := by
  simp only [List.mem_cons, List.not_mem_nil, or_false] at h
  rcases h with rfl | rfl | rfl
  · exact ⟨_, rfl, .inl rfl⟩
  · exact ⟨_, rfl, .inr (.inl rfl)⟩
  · exact ⟨_, rfl, .inr (.inr rfl)⟩
theorem rng_mem {n : Nat} : ∀ d ∈ rngL 0 n, ∃ i : Nat, d = .int i ∧ i < n := fun d hd => by
  rw [rng_eq] at hd
  obtain ⟨i, hi, rfl⟩ := List.mem_map.mp hd
  exact ⟨i, rfl, by simpa using hi⟩
theorem rng_len {n : Nat} {lo : Int} : (rngL lo n).length = n := by simp [rngL]
theorem col_at : ∀ {ps : List (Str × Str)} {i j : Nat} {p : Str × Str}, (ps.map (·.1)).Nodup → ps[j]? = some p → colAt i ps p.1 = .int (i + j : Nat)
  | q :: ps, i, 0, p, _, e => by
    cases e
    rw [colAt, if_pos rfl]
    rfl
  | q :: ps, i, j + 1, p, h, e => by
    rw [List.map_cons, List.nodup_cons] at h
    have e' : ps[j]? = some p := e
    have hm : p.1 ∈ ps.map (·.1) := List.mem_map.mpr ⟨p, List.mem_of_getElem? e', rfl⟩
    rw [colAt, if_neg (fun z => h.1 (by rw [z]; exact hm)), col_at h.2 e']
    have e3 : i + 1 + j = i + (j + 1) := by omega
    rw [e3]
  | [], _, _, _, _, e => (by simp at e)
theorem col_none : ∀ {ps : List (Str × Str)} {i : Nat} {x : Str}, x ∉ ps.map (·.1) → colAt i ps x = .none
  | [], _, _, _ => rfl
  | p :: ps, i, x, h => by
    rw [List.map_cons, List.mem_cons, not_or] at h
    rw [colAt, if_neg (fun z => h.1 z.symm), col_none h.2]
theorem ltV_eq {a b : D} (ha : gv a) (hb : gv b) (h1 : ltV a b = false) (h2 : ltV b a = false) : a = b := by
  unfold ltV at h1 h2
  rcases gv5 ha with rfl | rfl | rfl | ⟨i, rfl⟩ | ⟨s, rfl⟩ <;> rcases gv5 hb with rfl | rfl | rfl | ⟨j, rfl⟩ | ⟨t, rfl⟩ <;> first | rfl | (exfalso; revert h1 h2; simp [rk]; done) | skip
  · simp only [rk, ne_eq, not_true_eq_false, ↓reduceIte, decide_eq_false_iff_not] at h1 h2
    rw [show i = j by omega]
  · simp only [rk, ne_eq, not_true_eq_false, ↓reduceIte, decide_eq_false_iff_not] at h1 h2
    rw [PySem.W.str_of_cps (List.le_antisymm (List.not_lt.mp h2) (List.not_lt.mp h1))]
theorem ltR_irr : ∀ {xs : List D}, (∀ v ∈ xs, gv v) → ltR xs xs = false
  | [], _ => rfl
  | x :: xs, h => by
    rw [ltR, ltV_irr (h x List.mem_cons_self), ltR_irr fun v hv => h v (List.mem_cons_of_mem _ hv)]
    rfl
theorem ltR_eq : ∀ {xs ys : List D}, (∀ v ∈ xs, gv v) → (∀ v ∈ ys, gv v) → ltR xs ys = false → ltR ys xs = false → xs = ys
  | [], [], _, _, _, _ => rfl
  | [], _ :: _, _, _, h, _ => (by cases h)
  | _ :: _, [], _, _, _, h => (by cases h)
  | x :: xs, y :: ys, hx, hy, h1, h2 => by
    rw [ltR] at h1 h2
    have gx := hx x List.mem_cons_self
    have gy := hy y List.mem_cons_self
    cases q1 : ltV x y with
    | true => rw [q1] at h1; cases h1
    | false =>
      cases q2 : ltV y x with
      | true => rw [q2] at h2; cases h2
      | false =>
        rw [q1, q2] at h1 h2
        rw [ltV_eq gx gy q1 q2, ltR_eq (fun v hv => hx v (List.mem_cons_of_mem _ hv)) (fun v hv => hy v (List.mem_cons_of_mem _ hv)) h1 h2]
theorem small_log {i j : Int} (hi : -1000000 ≤ i ∧ i ≤ 1000000) (hj : -1000000 ≤ j ∧ j ≤ 1000000) : i.natAbs.log2 + j.natAbs.log2 < 1000000 := log_ok 20 20 (by omega) (by omega) (by decide)
/-- a pair of whole numbers -/
def prD (p : Int × Int) : D := .tuple [.int p.1, .int p.2]
theorem shaped_pr (p : Int × Int) : SeqAt.shaped (prD p) = true := by simp [SeqAt.shaped, prD, PyData.canLay0, PyData.canLayAll0, PyData.depth, PyData.depthAll]
theorem prs_all : ∀ ps : List (Int × Int), PyData.canLayAll0 (ps.map prD) = true ∧ PyData.depthAll (ps.map prD) ≤ 1
  | [] => ⟨rfl, by decide⟩
  | p :: ps => by
    obtain ⟨h1, h2⟩ := prs_all ps
    refine ⟨?_, ?_⟩
    · simp [PyData.canLayAll0, h1, prD, PyData.canLay0]
    · simp only [List.map_cons, PyData.depthAll, prD, PyData.depth] at h2 ⊢
      omega
theorem shaped_prs (ps : List (Int × Int)) : SeqAt.shaped (.list (ps.map prD)) = true := by
  obtain ⟨h1, h2⟩ := prs_all ps
  unfold SeqAt.shaped
  rw [PyData.canLay0, PyData.depth, h1]
  simp
  omega
theorem eqv_pr (p q : Int × Int) : PyData.eqv (prD p) (prD q) = decide (p = q) := by
  obtain ⟨a, b⟩ := p
  obtain ⟨c, d⟩ := q
  simp only [prD, PyData.eqv, PyData.eqvAll, Bool.and_true]
  by_cases h1 : a = c
  · by_cases h2 : b = d <;> simp [h1, h2]
  · simp [h1]
theorem in_prs (p : Int × Int) (ps : List (Int × Int)) : inT (prD p) (.list (ps.map prD)) = some (decide (p ∈ ps)) := by
  show (if SeqAt.shaped (prD p) = true ∧ SeqAt.shaped (.list (ps.map prD)) = true then some ((ps.map prD).any fun z => PyData.eqv z (prD p)) else none) = _
  rw [if_pos ⟨shaped_pr p, shaped_prs ps⟩]
  congr 1
  induction ps with
  | nil => rfl
  | cons q ps ih =>
    rw [List.map_cons, List.any_cons, ih, eqv_pr]
    by_cases h : q = p
    · simp [h]
    · simp [h, Ne.symm h]
theorem eq_prs (ps : List (Int × Int)) : eqT (.list (ps.map prD)) (.list (ps.map prD)) = some true := by
  have h : PyData.eqvAll (ps.map prD) (ps.map prD) = true := by
    induction ps with
    | nil => rfl
    | cons q ps ih => rw [List.map_cons, PyData.eqvAll, ih, eqv_pr]; simp
  show (if SeqAt.shaped (.list (ps.map prD)) = true ∧ SeqAt.shaped (.list (ps.map prD)) = true then some (PyData.eqv (.list (ps.map prD)) (.list (ps.map prD))) else none) = _
  rw [if_pos ⟨shaped_prs ps, shaped_prs ps⟩, PyData.eqv, h]
open DnSo in
theorem sortOk_prs (ps : List (Int × Int)) (h : ps.length ≤ 16777216) : sortOk (ps.map prD) = true := by
  have hc : ∀ a b : Int × Int, (DnLt.ltB (prD a) (prD b)).isSome = true := by
    rintro ⟨a, b⟩ ⟨c, d⟩
    simp only [prD, DnLt.ltB, DnLt.ltA, PyData.eqv]
    by_cases h1 : a = c
    · by_cases h2 : b = d <;> simp [h1, h2]
    · simp [h1]
  unfold sortOk
  simp only [Bool.and_eq_true, List.all_eq_true, decide_eq_true_eq, Bool.or_eq_true, List.length_map, List.mem_map]
  refine ⟨⟨⟨h, ?_⟩, ?_⟩, .inl (.inl ?_)⟩
  · rintro d ⟨p, _, rfl⟩
    exact ⟨⟨rfl, by simp [prD, PyData.canLay0, PyData.canLayAll0]⟩, by simp [prD, PyData.depth, PyData.depthAll]⟩
  · rintro d ⟨p, _, rfl⟩ e ⟨q, _, rfl⟩
    exact hc p q
  · rintro d ⟨p, _, rfl⟩
    rfl
open DnSo in
theorem sort_prs {ps qs : List (Int × Int)} (hp : qs.Perm ps) (hs : qs.Pairwise fun x y => x.1 < y.1) : (ps.map prD).mergeSort leD3 = qs.map prD := by
  refine (sort_one (ds := ps.map prD) (out := qs.map prD) (fun d hd => ?_) (hp.map prD) (List.pairwise_map.mpr (hs.imp fun {x y} h => ?_))).symm
  · obtain ⟨p, _, rfl⟩ := List.mem_map.mp hd
    rfl
  · simp only [prD, cmp3, cmpL]
    rw [if_neg (by omega), if_pos h]
    rfl
open DnSo in
theorem sortOk_ints (ns : List Int) (h : ns.length ≤ 16777216) : sortOk (ns.map PyData.int) = true := by
  unfold sortOk
  simp only [Bool.and_eq_true, List.all_eq_true, decide_eq_true_eq, Bool.or_eq_true, List.length_map, List.mem_map]
  refine ⟨⟨⟨h, ?_⟩, ?_⟩, .inr ?_⟩
  · rintro d ⟨p, _, rfl⟩
    exact ⟨⟨rfl, rfl⟩, by simp [PyData.depth]⟩
  · rintro d ⟨p, _, rfl⟩ e ⟨q, _, rfl⟩
    rfl
  · rintro d ⟨p, _, rfl⟩
    rfl
open DnSo in
/-- sorted whole numbers: the same numbers in order -/
theorem sort_ints (ns : List Int) : ∃ ms : List Int, (ns.map PyData.int).mergeSort leD3 = ms.map PyData.int ∧ ms.Perm ns ∧ ms.Pairwise (· ≤ ·) := by
  refine ⟨ns.mergeSort fun a b => decide (a ≤ b), ?_, List.mergeSort_perm _ _, ?_⟩
  · refine (sort_one (ds := ns.map PyData.int) (fun d hd => ?_) ((List.mergeSort_perm _ _).map PyData.int) (List.pairwise_map.mpr ((List.pairwise_mergeSort (le := fun a b : Int => decide (a ≤ b)) ?_ ?_ ns).imp fun {x y} h => ?_))).symm
    · obtain ⟨p, _, rfl⟩ := List.mem_map.mp hd
      rfl
    · intro a b c h1 h2
      simp at h1 h2 ⊢
      omega
    · intro a b
      simp
      omega
    · have h' : x ≤ y := of_decide_eq_true h
      simp only [cmp3]
      rw [if_neg (by omega)]
      split <;> rfl
  · refine (List.pairwise_mergeSort (le := fun a b : Int => decide (a ≤ b)) ?_ ?_ ns).imp fun {x y} h => of_decide_eq_true h
    · intro a b c h1 h2
      simp at h1 h2 ⊢
      omega
    · intro a b
      simp
      omega
theorem ixA_last {α : Type} (xs : List α) (x : α) : ixA (xs ++ [x]) (-1) = some x := by
  unfold ixA
  rw [if_neg (by decide), if_pos (by simp; omega)]
  have e : (-1 + ((xs ++ [x]).length : Int)).toNat = xs.length := by simp; omega
  rw [e]
  simp
end Lw
set_option maxHeartbeats 4000000
/-! data that can be shown; sums; the first of the least -/
namespace Lw
open PySem Dn Dm
mutual
/-- small leaves -/
def smD : D → Bool
  | .none => true
  | .bool _ => true
  | .int i => decide (i.natAbs < 1000000000000)
  | .str s => PyData.strOk s && decide (s.length ≤ 100) && s.cps.toList.all fun c => decide (c < 16 ^ 8)
  | .list xs => smL xs
  | .tuple xs => smL xs
  | .dict _ => false
def smL : List D → Bool
  | [] => true
  | x :: xs => smD x && smL xs
end
mutual
def nodes : D → Nat
  | .list xs => nodesL xs
  | .tuple xs => nodesL xs
  | _ => 1
def nodesL : List D → Nat
  | [] => 0
  | x :: xs => nodes x + 1 + nodesL xs
end
theorem int_log {i : Int} (h : i.natAbs < 1000000000000) : i.natAbs.log2 < 60 := by
  by_cases z : i.natAbs = 0
  · rw [z]; decide
  · exact (Nat.log2_lt z).mpr (by omega)
mutual
theorem sm_ok : ∀ d : D, smD d = true → d.canLay0 = true ∧ PyData.showable d = true ∧ PyData.leavesShort 13 d = true ∧ d.weight ≤ 101 * nodes d
  | .none, _ => ⟨rfl, rfl, rfl, by simp [PyData.weight, nodes]⟩
  | .bool _, _ => ⟨rfl, rfl, rfl, by simp [PyData.weight, nodes]⟩
  | .int i, h => by
    have h' : i.natAbs < 1000000000000 := by simpa [smD] using h
    have hl := int_log h'
    refine ⟨rfl, ?_, ?_, ?_⟩
    · simp only [PyData.showable, decide_eq_true_eq]
      omega
    · simp only [PyData.leavesShort, decide_eq_true_eq]
      exact PyData.shown_int_le (by omega)
    · simp only [PyData.weight, nodes]
      split <;> omega
  | .str s, h => by
    simp only [smD, Bool.and_eq_true, decide_eq_true_eq] at h
    refine ⟨?_, rfl, ?_, ?_⟩
    · simpa [PyData.canLay0] using h.1.1
    · simpa only [PyData.leavesShort] using h.2
    · have h1 : s.cps.size ≤ 100 := h.1.2
      simp only [PyData.weight, nodes]
      omega
  | .list xs, h => by
    obtain ⟨h1, h2, h3, h4⟩ := smL_ok xs (by simpa [smD] using h)
    exact ⟨by simpa [PyData.canLay0] using h1, by simpa [PyData.showable] using h2, by simpa [PyData.leavesShort] using h3, by simpa [PyData.weight, nodes] using h4⟩
  | .tuple xs, h => by
    obtain ⟨h1, h2, h3, h4⟩ := smL_ok xs (by simpa [smD] using h)
    exact ⟨by simpa [PyData.canLay0] using h1, by simpa [PyData.showable] using h2, by simpa [PyData.leavesShort] using h3, by simpa [PyData.weight, nodes] using h4⟩
  | .dict _, h => by simp [smD] at h
theorem smL_ok : ∀ ds : List D, smL ds = true → PyData.canLayAll0 ds = true ∧ PyData.showableAll ds = true ∧ PyData.leavesShortAll 13 ds = true ∧ PyData.weightAll ds ≤ 101 * nodesL ds
  | [], _ => ⟨rfl, rfl, rfl, by simp [PyData.weightAll]⟩
  | d :: ds, h => by
    simp only [smL, Bool.and_eq_true] at h
    obtain ⟨h1, h2, h3, h4⟩ := sm_ok d h.1
    obtain ⟨i1, i2, i3, i4⟩ := smL_ok ds h.2
    refine ⟨by simp [PyData.canLayAll0, h1, i1], by simp [PyData.showableAll, h2, i2], by simp [PyData.leavesShortAll, h3, i3], ?_⟩
    simp only [PyData.weightAll, nodesL]
    omega
end
theorem repr_ok {d : D} (h : smD d = true) (hd : d.depth ≤ 8) (hn : nodes d ≤ 10000) : reprOk d = true := by
  obtain ⟨h1, h2, h3, h4⟩ := sm_ok d h
  unfold reprOk
  simp only [h1, h2, h3, Bool.and_true, Bool.true_and, Bool.and_eq_true, decide_eq_true_eq]
  refine ⟨hd, Nat.le_trans h4 (Nat.le_trans (Nat.mul_le_mul_left 101 hn) (by decide))⟩
theorem sm_of {d : D} (g : gv d) (h : isV d = true) : smD d = true := by
  rcases gv_cases g with rfl | ⟨b, rfl⟩ | ⟨i, rfl⟩ | ⟨s, rfl⟩
  · rfl
  · rfl
  · have := of_decide_eq_true h
    simp only [smD, decide_eq_true_eq]
    omega
  · have h1 := Bool.and_eq_true_iff.mp h
    have h2 : s.length ≤ 40 := of_decide_eq_true h1.1
    have h3 : PyData.strOk s = true := by simpa [PyData.canLay0] using SeqAt.canLay_of_shaped g.2
    simp only [smD, h3, Bool.true_and, Bool.and_eq_true, decide_eq_true_eq, List.all_eq_true]
    refine ⟨by omega, fun c hc => ?_⟩
    have h4 := (List.all_eq_true.mp h1.2) c hc
    have h5 := of_decide_eq_true h4
    have : (16 : Nat) ^ 8 = 4294967296 := by decide
    omega
theorem depth_v {d : D} (g : gv d) : d.depth = 0 := by
  rcases gv_cases g with rfl | ⟨b, rfl⟩ | ⟨i, rfl⟩ | ⟨s, rfl⟩ <;> simp [PyData.depth]
theorem nodes_v {d : D} (g : gv d) : nodes d = 1 := by
  rcases gv_cases g with rfl | ⟨b, rfl⟩ | ⟨i, rfl⟩ | ⟨s, rfl⟩ <;> simp [nodes]
theorem smL_map {α : Type} {f : α → D} {xs : List α} (h : ∀ x ∈ xs, smD (f x) = true) : smL (xs.map f) = true := by
  induction xs with
  | nil => rfl
  | cons x xs ih => simp [smL, h x List.mem_cons_self, ih fun y hy => h y (List.mem_cons_of_mem _ hy)]
theorem depthL_map {α : Type} {f : α → D} {xs : List α} {n : Nat} (h : ∀ x ∈ xs, (f x).depth ≤ n) : PyData.depthAll (xs.map f) ≤ n := by
  induction xs with
  | nil => simp [PyData.depthAll]
  | cons x xs ih =>
    have h1 := h x List.mem_cons_self
    have h2 := ih fun y hy => h y (List.mem_cons_of_mem _ hy)
    simp only [List.map_cons, PyData.depthAll]
    omega
theorem nodesL_map {α : Type} {f : α → D} {xs : List α} {n : Nat} (h : ∀ x ∈ xs, nodes (f x) ≤ n) : nodesL (xs.map f) ≤ (n + 1) * xs.length := by
  induction xs with
  | nil => simp [nodesL]
  | cons x xs ih =>
    have h1 := h x List.mem_cons_self
    have h2 := ih fun y hy => h y (List.mem_cons_of_mem _ hy)
    simp only [List.map_cons, nodesL, List.length_cons, Nat.mul_add, Nat.mul_one]
    omega
theorem ltB_vo' {a b : D} (ha : gv a) (hb : gv b) : DnLt.ltB (vo a) (vo b) = some (ltV a b) := by
  have h3 := eqv_vo ha hb
  cases h : PyData.eqv (vo a) (vo b) with
  | false => exact ltB_vo ha hb h
  | true =>
    rw [h] at h3
    have e2 : ltV a b = false ∧ ltV b a = false := by simpa using h3.symm
    rw [e2.1]
    obtain ⟨xs, e3⟩ := vo_tup a
    obtain ⟨ys, e4⟩ := vo_tup b
    rw [e3, e4] at h ⊢
    rw [PyData.eqv] at h
    rw [DnLt.ltB]
    exact ltA_eq xs ys h
open DnSo in
theorem ord_vo {d : D} (g : gv d) : ord0 (vo d) = true ∧ (vo d).canLay0 = true ∧ (vo d).depth ≤ 8 ∧ fst1 isI (vo d) = true := by
  have hs := SeqAt.canLay_of_shaped (shaped_vo g)
  rcases gv_cases g with rfl | ⟨b, rfl⟩ | ⟨i, rfl⟩ | ⟨s, rfl⟩ <;> exact ⟨rfl, hs, by simp [vo, PyData.depth, PyData.depthAll], rfl⟩
open DnSo in
theorem cmp_vo {a b : D} (ha : gv a) (hb : gv b) : (cmp3 (vo a) (vo b) == .lt) = ltV a b := (cmp_of_ltB _ _ _ (ord_vo ha).1 (ord_vo hb).1 (ltB_vo' ha hb)).symm
open DnSo in
theorem sortOk_vo {vs : List D} (h : ∀ v ∈ vs, gv v) (hl : vs.length ≤ 16777216) : sortOk (vs.map vo) = true := by
  unfold sortOk
  simp only [Bool.and_eq_true, List.all_eq_true, decide_eq_true_eq, Bool.or_eq_true, List.length_map, List.mem_map]
  refine ⟨⟨⟨hl, ?_⟩, ?_⟩, .inl (.inl ?_)⟩
  · rintro d ⟨p, hp, rfl⟩
    have := ord_vo (h p hp)
    exact ⟨⟨this.1, this.2.1⟩, this.2.2.1⟩
  · rintro d ⟨p, hp, rfl⟩ e ⟨q, hq, rfl⟩
    rw [ltB_vo' (h p hp) (h q hq)]
    rfl
  · rintro d ⟨p, hp, rfl⟩
    exact (ord_vo (h p hp)).2.2.2
open DnSo in
/-- the sorted orders: those of the values in order -/
theorem sort_vo {vs : List D} (h : ∀ v ∈ vs, gv v) : ∃ us : List D, (vs.map vo).mergeSort leD3 = us.map vo ∧ us.Perm vs ∧ us.Pairwise fun x y => ltV y x = false := by
  have hp := List.mergeSort_perm (vs.map vo) leD3
  obtain ⟨us, e, hu⟩ : ∃ us : List D, (vs.map vo).mergeSort leD3 = us.map vo ∧ us.Perm vs := by
    have : ∀ (l : List D) (vs : List D), l.Perm (vs.map vo) → ∃ us : List D, l = us.map vo ∧ us.Perm vs := by
      intro l
      induction l with
      | nil => intro vs hp; have := hp.symm.eq_nil; exact ⟨[], rfl, by rw [List.map_eq_nil_iff.mp this]⟩
      | cons a l ih =>
        intro vs hp
        have ha : a ∈ vs.map vo := hp.mem_iff.mp List.mem_cons_self
        obtain ⟨v, hv, rfl⟩ := List.mem_map.mp ha
        obtain ⟨s, t, rfl⟩ := List.append_of_mem hv
        have h2 : (vo v :: l).Perm (vo v :: ((s ++ t).map vo)) := hp.trans (by
          rw [List.map_append, List.map_cons, List.map_append]
          exact List.perm_middle)
        obtain ⟨us, e, hu⟩ := ih (s ++ t) ((List.perm_cons _).mp h2)
        exact ⟨v :: us, by rw [e]; rfl, (hu.cons v).trans List.perm_middle.symm⟩
    exact this _ _ hp
  refine ⟨us, e, hu, ?_⟩
  have O := swo3
  have hpw := List.pairwise_mergeSort (le := leD3) (fun a b c h1 h2 => ?_) (fun a b => ?_) (vs.map vo)
  · rw [e] at hpw
    have hpw' := List.pairwise_map.mp hpw
    refine List.Pairwise.imp_of_mem (fun {x y} hx hy hxy => ?_) hpw'
    have gx := h x (hu.mem_iff.mp hx)
    have gy := h y (hu.mem_iff.mp hy)
    rw [← cmp_vo gy gx]
    simpa [leD3] using hxy
  · simp only [leD3, Bool.not_eq_true'] at h1 h2 ⊢
    exact O.tr a b c h1 h2
  · unfold leD3
    cases c : (cmp3 b a == .lt) with
    | false => rfl
    | true => rw [O.asym b a c]; rfl
theorem ofString_inj {a b : String} (h : Str.ofString a = Str.ofString b) : a = b := by
  have h1 := congrArg (fun s : Str => s.cps.toList) h
  simp only [PyProof.Rows.signs_ofString] at h1
  have h2 : a.toList = b.toList := (List.map_inj_right (fun x y e => Char.toNat_inj.mp e)).mp h1
  exact String.toList_inj.mp h2
theorem str_ne {a b : String} (h : a ≠ b) : (Str.ofString a = Str.ofString b) = False := eq_false fun z => h (ofString_inj z)
end Lw
set_option maxHeartbeats 4000000
/-! flows: moves, sums, their order, in plain Lean -/
namespace Lw
open PySem Dn Dm DnSo
/-- time and row; a move has a weight besides -/
abbrev Ky := Int × List D
abbrev Mv := Ky × Int
def kyD (k : Ky) : D := .tuple [.int k.1, .tuple (k.2.map vo)]
def mvD (m : Mv) : D := .tuple [.int m.1.1, .tuple m.1.2, .int m.2]
def okK (k : Ky) : Prop := (∀ v ∈ k.2, gv v) ∧ k.2.length ≤ 1000
def okL (ms : List Mv) : Prop := ∀ m ∈ ms, okK m.1
def eqK (a b : Ky) : Bool := decide (a.1 = b.1) && (!ltR a.2 b.2 && !ltR b.2 a.2)
def kLt (a b : Ky) : Bool := if a.1 = b.1 then ltR a.2 b.2 else decide (a.1 < b.1)
theorem eqK_iff {a b : Ky} (ha : okK a) (hb : okK b) : eqK a b = true ↔ a = b := by
  unfold eqK
  rw [Bool.and_eq_true, Bool.and_eq_true, decide_eq_true_eq, Bool.not_eq_true', Bool.not_eq_true']
  constructor
  · rintro ⟨h1, h2, h3⟩
    exact Prod.ext h1 (ltR_eq ha.1 hb.1 h2 h3)
  · rintro rfl
    exact ⟨rfl, ltR_irr ha.1, ltR_irr ha.1⟩
theorem eqK_self {a : Ky} (ha : okK a) : eqK a a = true := (eqK_iff ha ha).mpr rfl
theorem vo_ord {xs : List D} (h : ∀ v ∈ xs, gv v) : ordL (xs.map vo) = true ∧ PyData.canLayAll0 (xs.map vo) = true ∧ PyData.depthAll (xs.map vo) ≤ 1 := by
  induction xs with
  | nil => exact ⟨rfl, rfl, by decide⟩
  | cons x xs ih =>
    obtain ⟨i1, i2, i3⟩ := ih fun v hv => h v (List.mem_cons_of_mem _ hv)
    obtain ⟨o1, o2, _, _⟩ := ord_vo (h x List.mem_cons_self)
    have o3 : (vo x).depth ≤ 1 := by
      rcases gv_cases (h x List.mem_cons_self) with rfl | ⟨b, rfl⟩ | ⟨i, rfl⟩ | ⟨s, rfl⟩ <;> simp [vo, PyData.depth, PyData.depthAll]
    refine ⟨?_, ?_, ?_⟩
    · rw [List.map_cons, ordL, o1, i1]; rfl
    · rw [List.map_cons, PyData.canLayAll0, o2, i2]; rfl
    · rw [List.map_cons, PyData.depthAll]; omega
theorem ky_ord {k : Ky} (h : okK k) : ord0 (kyD k) = true ∧ (kyD k).canLay0 = true ∧ (kyD k).depth ≤ 3 ∧ fst1 isI (kyD k) = true := by
  obtain ⟨o1, o2, o3⟩ := vo_ord h.1
  refine ⟨?_, ?_, ?_, rfl⟩
  · simp [kyD, ord0, ordL, o1]
  · simp [kyD, PyData.canLay0, PyData.canLayAll0, o2]
  · simp [kyD, PyData.depth, PyData.depthAll]
    omega
theorem ltB_ky {a b : Ky} (ha : okK a) (hb : okK b) : DnLt.ltB (kyD a) (kyD b) = some (kLt a b) := by
  show DnLt.ltB (.tuple [.int a.1, .tuple (a.2.map vo)]) (.tuple [.int b.1, .tuple (b.2.map vo)]) = _
  rw [DnLt.ltB, DnLt.ltA, PyData.eqv]
  unfold kLt
  by_cases h : a.1 = b.1
  · rw [if_pos h]
    have e : (a.1 == b.1) = true := by simp [h]
    rw [e, if_pos rfl, DnLt.ltA, PyData.eqv]
    have e2 := eqvAll_vo ha.1 hb.1
    cases h2 : PyData.eqvAll (a.2.map vo) (b.2.map vo) with
    | true =>
      rw [h2] at e2
      have e3 : ltR a.2 b.2 = false ∧ ltR b.2 a.2 = false := by simpa using e2.symm
      rw [if_pos rfl, e3.1]
      rfl
    | false =>
      rw [if_neg (by decide), DnLt.ltB, ltA_vo ha.1 hb.1]
  · rw [if_neg h]
    have e : (a.1 == b.1) = false := by simp [h]
    rw [e, if_neg (by decide), DnLt.ltB]
theorem cmp_ky {a b : Ky} (ha : okK a) (hb : okK b) : (cmp3 (kyD a) (kyD b) == .lt) = kLt a b := (cmp_of_ltB _ _ _ (ky_ord ha).1 (ky_ord hb).1 (ltB_ky ha hb)).symm
theorem kLt_asym {a b : Ky} (ha : okK a) (hb : okK b) (h : kLt a b = true) : kLt b a = false := by
  rw [← cmp_ky hb ha]
  rw [← cmp_ky ha hb] at h
  exact swo3.asym _ _ h
theorem kLt_irr {a : Ky} (ha : okK a) : kLt a a = false := by
  unfold kLt
  rw [if_pos rfl]
  exact ltR_irr ha.1
theorem kLt_tri {a b : Ky} (ha : okK a) (hb : okK b) (h1 : kLt a b = false) (h2 : kLt b a = false) : a = b := by
  unfold kLt at h1 h2
  by_cases h : a.1 = b.1
  · rw [if_pos h] at h1
    rw [if_pos h.symm] at h2
    exact Prod.ext h (ltR_eq ha.1 hb.1 h1 h2)
  · rw [if_neg h, decide_eq_false_iff_not] at h1
    rw [if_neg (Ne.symm h), decide_eq_false_iff_not] at h2
    omega
theorem kLt_trans {a b c : Ky} (ha : okK a) (hb : okK b) (hc : okK c) (h1 : kLt a b = true) (h2 : kLt b c = true) : kLt a c = true := by
  cases h : kLt a c with
  | true => rfl
  | false =>
    cases h3 : kLt c a with
    | false =>
      have := kLt_tri ha hc h h3
      subst this
      rw [kLt_asym ha hb h1] at h2
      cases h2
    | true =>
      have q := swo3.tr (kyD c) (kyD a) (kyD b) ((cmp_ky ha hc).trans h) ((cmp_ky hb ha).trans (kLt_asym ha hb h1))
      have e := (cmp_ky hb hc).trans h2
      rw [e] at q
      cases q
/-! weights -/
def wt (ms : List Mv) (k : Ky) : Int := (ms.map fun m => if eqK m.1 k = true then m.2 else 0).sum
theorem wt_nil (k : Ky) : wt [] k = 0 := rfl
theorem wt_cons (m : Mv) (ms : List Mv) (k : Ky) : wt (m :: ms) k = (if eqK m.1 k = true then m.2 else 0) + wt ms k := by
  unfold wt
  rw [List.map_cons, List.sum_cons]
theorem wt_app (as bs : List Mv) (k : Ky) : wt (as ++ bs) k = wt as k + wt bs k := by
  induction as with
  | nil => rw [List.nil_append, wt_nil, Int.zero_add]
  | cons a as ih => rw [List.cons_append, wt_cons, wt_cons, ih, Int.add_assoc]
theorem wt_rev (as : List Mv) (k : Ky) : wt as.reverse k = wt as k := by
  induction as with
  | nil => rfl
  | cons a as ih => rw [List.reverse_cons, wt_app, wt_cons, wt_cons, ih, wt_nil, Int.add_zero, Int.add_comm]
theorem wt_perm {as bs : List Mv} (h : as.Perm bs) (k : Ky) : wt as k = wt bs k := by
  induction h with
  | nil => rfl
  | cons a _ ih => rw [wt_cons, wt_cons, ih]
  | swap a b l => rw [wt_cons, wt_cons, wt_cons, wt_cons]; omega
  | trans _ _ i1 i2 => rw [i1, i2]
def neg (ms : List Mv) : List Mv := ms.map fun m => (m.1, -m.2)
theorem wt_neg (ms : List Mv) (k : Ky) : wt (neg ms) k = - wt ms k := by
  induction ms with
  | nil => rfl
  | cons a as ih =>
    show wt ((a.1, -a.2) :: neg as) k = _
    rw [wt_cons, wt_cons, ih]
    split <;> omega
theorem wt_zero {ms : List Mv} {k : Ky} (h : ∀ m ∈ ms, eqK m.1 k = false) : wt ms k = 0 := by
  induction ms with
  | nil => rfl
  | cons a as ih =>
    rw [wt_cons, h a List.mem_cons_self, if_neg (by decide), ih fun m hm => h m (List.mem_cons_of_mem _ hm)]
    rfl
/-! moves of one row and time put together -/
def addF : List Mv → Mv → List Mv
  | [], m => [m]
  | x :: xs, m => if eqK x.1 m.1 = true then (x.1, x.2 + m.2) :: xs else x :: addF xs m
def fnd (ms : List Mv) : List Mv := ms.foldl addF []
theorem okL_cons {m : Mv} {ms : List Mv} : okL (m :: ms) ↔ okK m.1 ∧ okL ms := by
  unfold okL
  simp only [List.mem_cons, forall_eq_or_imp]
theorem okL_app {as bs : List Mv} : okL (as ++ bs) ↔ okL as ∧ okL bs := by
  unfold okL
  constructor
  · exact fun h => ⟨fun m hm => h m (List.mem_append_left _ hm), fun m hm => h m (List.mem_append_right _ hm)⟩
  · rintro ⟨h1, h2⟩ m hm
    rcases List.mem_append.mp hm with h | h
    · exact h1 m h
    · exact h2 m h
theorem addF_ok {F : List Mv} {m : Mv} (h : okL F) (hm : okK m.1) : okL (addF F m) := by
  induction F with
  | nil => exact okL_cons.mpr ⟨hm, h⟩
  | cons x xs ih =>
    obtain ⟨h1, h2⟩ := okL_cons.mp h
    unfold addF
    split
    · exact okL_cons.mpr ⟨h1, h2⟩
    · exact okL_cons.mpr ⟨h1, ih h2⟩
theorem wt_addF {F : List Mv} {m : Mv} {k : Ky} (h : okL F) (hm : okK m.1) : wt (addF F m) k = wt F k + wt [m] k := by
  induction F with
  | nil => rw [wt_nil, Int.zero_add]; rfl
  | cons x xs ih =>
    obtain ⟨h1, h2⟩ := okL_cons.mp h
    unfold addF
    split
    · rename_i e
      have e2 := (eqK_iff h1 hm).mp e
      rw [wt_cons, wt_cons, wt_cons, wt_nil, ← e2]
      split <;> simp <;> omega
    · rw [wt_cons, wt_cons, ih h2]
      omega
theorem addF_keys {F : List Mv} {m : Mv} : ∀ x ∈ addF F m, (∃ y ∈ F, y.1 = x.1) ∨ x.1 = m.1 := by
  induction F with
  | nil =>
    intro x hx
    exact .inr (by rw [List.mem_singleton.mp hx])
  | cons y ys ih =>
    intro x hx
    unfold addF at hx
    split at hx
    · rcases List.mem_cons.mp hx with rfl | h
      · exact .inl ⟨y, List.mem_cons_self, rfl⟩
      · exact .inl ⟨x, List.mem_cons_of_mem _ h, rfl⟩
    · rcases List.mem_cons.mp hx with rfl | h
      · exact .inl ⟨x, List.mem_cons_self, rfl⟩
      · rcases ih x h with ⟨z, hz, e⟩ | e
        · exact .inl ⟨z, List.mem_cons_of_mem _ hz, e⟩
        · exact .inr e
/-- no key twice -/
def nd (F : List Mv) : Prop := F.Pairwise fun x y => x.1 ≠ y.1
theorem addF_nd {F : List Mv} {m : Mv} (h : okL F) (hm : okK m.1) (hn : nd F) : nd (addF F m) := by
  induction F with
  | nil => exact List.pairwise_singleton _ _
  | cons x xs ih =>
    obtain ⟨h1, h2⟩ := okL_cons.mp h
    obtain ⟨n1, n2⟩ := List.pairwise_cons.mp hn
    unfold addF
    split
    · exact List.pairwise_cons.mpr ⟨n1, n2⟩
    · rename_i e
      refine List.pairwise_cons.mpr ⟨fun y hy => ?_, ih h2 n2⟩
      rcases addF_keys y hy with ⟨z, hz, ez⟩ | ez
      · rw [← ez]
        exact n1 z hz
      · rw [ez]
        exact fun q => e ((eqK_iff h1 hm).mpr q)
theorem fold_facts : ∀ {ms F : List Mv}, okL F → nd F → okL ms → okL (ms.foldl addF F) ∧ nd (ms.foldl addF F) ∧ ∀ k, wt (ms.foldl addF F) k = wt F k + wt ms k
  | [], F, h1, h2, _ => ⟨h1, h2, fun k => by rw [wt_nil, Int.add_zero]; rfl⟩
  | m :: ms, F, h1, h2, h3 => by
    obtain ⟨o1, o2⟩ := okL_cons.mp h3
    obtain ⟨i1, i2, i3⟩ := fold_facts (ms := ms) (addF_ok h1 o1) (addF_nd h1 o1 h2) o2
    refine ⟨i1, i2, fun k => ?_⟩
    rw [List.foldl_cons, i3, wt_addF h1 o1, wt_cons, wt_cons, wt_nil]
    omega
theorem okL_nil : okL [] := fun m h => by cases h
theorem fnd_ok {ms : List Mv} (h : okL ms) : okL (fnd ms) := (fold_facts okL_nil List.Pairwise.nil h).1
theorem fnd_nd {ms : List Mv} (h : okL ms) : nd (fnd ms) := (fold_facts okL_nil List.Pairwise.nil h).2.1
theorem fnd_wt {ms : List Mv} (h : okL ms) (k : Ky) : wt (fnd ms) k = wt ms k := by
  have := (fold_facts okL_nil List.Pairwise.nil h).2.2 k
  rw [wt_nil, Int.zero_add] at this
  exact this
theorem addF_len {F : List Mv} {m : Mv} : (addF F m).length ≤ F.length + 1 := by
  induction F with
  | nil => exact Nat.le_refl _
  | cons x xs ih =>
    unfold addF
    split
    · simp
    · simp only [List.length_cons]
      omega
theorem fold_len : ∀ {ms F : List Mv}, (ms.foldl addF F).length ≤ F.length + ms.length
  | [], F => Nat.le_refl _
  | m :: ms, F => by
    have := fold_len (ms := ms) (F := addF F m)
    have := addF_len (F := F) (m := m)
    rw [List.foldl_cons, List.length_cons]
    omega
theorem fnd_len (ms : List Mv) : (fnd ms).length ≤ ms.length := by
  have := fold_len (ms := ms) (F := [])
  simpa [fnd] using this
theorem wt_mem {F : List Mv} {m : Mv} (h : okL F) (hn : nd F) (hm : m ∈ F) : wt F m.1 = m.2 := by
  induction F with
  | nil => cases hm
  | cons x xs ih =>
    obtain ⟨h1, h2⟩ := okL_cons.mp h
    obtain ⟨n1, n2⟩ := List.pairwise_cons.mp hn
    rw [wt_cons]
    rcases List.mem_cons.mp hm with rfl | hm
    · rw [eqK_self h1, if_pos rfl, wt_zero fun y hy => ?_, Int.add_zero]
      cases e : eqK y.1 m.1 with
      | false => rfl
      | true => exact absurd ((eqK_iff (h2 y hy) h1).mp e).symm (n1 y hy)
    · rw [ih h2 n2 hm]
      have : eqK x.1 m.1 = false := by
        cases e : eqK x.1 m.1 with
        | false => rfl
        | true => exact absurd ((eqK_iff h1 (h2 m hm)).mp e) (n1 m hm)
      rw [this, if_neg (by decide), Int.zero_add]
theorem wt_has {F : List Mv} {k : Ky} (h : okL F) (hk : okK k) (hw : wt F k ≠ 0) : ∃ m ∈ F, m.1 = k := by
  induction F with
  | nil => exact absurd rfl hw
  | cons x xs ih =>
    obtain ⟨h1, h2⟩ := okL_cons.mp h
    by_cases e : eqK x.1 k = true
    · exact ⟨x, List.mem_cons_self, (eqK_iff h1 hk).mp e⟩
    · rw [wt_cons, if_neg e, Int.zero_add] at hw
      obtain ⟨m, hm, e2⟩ := ih h2 hw
      exact ⟨m, List.mem_cons_of_mem _ hm, e2⟩
/-! the order of moves -/
def ins (m : Mv) : List Mv → List Mv
  | [] => [m]
  | x :: xs => if kLt x.1 m.1 = true then x :: ins m xs else m :: x :: xs
def srt (F : List Mv) : List Mv := F.foldl (fun o m => ins m o) []
def asc (F : List Mv) : Prop := F.Pairwise fun x y => kLt x.1 y.1 = true
theorem ins_perm (m : Mv) (xs : List Mv) : (ins m xs).Perm (m :: xs) := by
  induction xs with
  | nil => exact .refl _
  | cons x xs ih =>
    unfold ins
    split
    · exact (ih.cons x).trans (.swap _ _ _)
    · exact .refl _
theorem okL_perm {as bs : List Mv} (p : as.Perm bs) (h : okL as) : okL bs := fun m hm => h m (p.mem_iff.mpr hm)
theorem ins_asc {m : Mv} {xs : List Mv} (h : okL xs) (hm : okK m.1) (hn : ∀ x ∈ xs, x.1 ≠ m.1) (ha : asc xs) : asc (ins m xs) := by
  induction xs with
  | nil => exact List.pairwise_singleton _ _
  | cons x xs ih =>
    obtain ⟨h1, h2⟩ := okL_cons.mp h
    obtain ⟨a1, a2⟩ := List.pairwise_cons.mp ha
    unfold ins
    split
    · rename_i e
      refine List.pairwise_cons.mpr ⟨fun y hy => ?_, ih h2 (fun y hy => hn y (List.mem_cons_of_mem _ hy)) a2⟩
      rcases List.mem_cons.mp ((ins_perm m xs).mem_iff.mp hy) with rfl | hy
      · exact e
      · exact a1 y hy
    · rename_i e
      have hlt : kLt m.1 x.1 = true := by
        cases q : kLt m.1 x.1 with
        | true => rfl
        | false => exact absurd (kLt_tri h1 hm (by simpa using e) q) (hn x List.mem_cons_self)
      refine List.pairwise_cons.mpr ⟨fun y hy => ?_, ha⟩
      rcases List.mem_cons.mp hy with rfl | hy
      · exact hlt
      · exact kLt_trans hm h1 (h2 y hy) hlt (a1 y hy)
theorem srt_facts : ∀ {F o : List Mv}, okL o → asc o → okL F → (∀ x ∈ o, ∀ y ∈ F, x.1 ≠ y.1) → nd F → (F.foldl (fun o m => ins m o) o).Perm (o ++ F) ∧ asc (F.foldl (fun o m => ins m o) o)
  | [], o, h1, h2, _, _, _ => ⟨by simp, h2⟩
  | m :: F, o, h1, h2, h3, h4, h5 => by
    obtain ⟨o1, o2⟩ := okL_cons.mp h3
    obtain ⟨n1, n2⟩ := List.pairwise_cons.mp h5
    have hp := ins_perm m o
    obtain ⟨i1, i2⟩ := srt_facts (F := F) (o := ins m o) (okL_perm hp.symm (okL_cons.mpr ⟨o1, h1⟩)) (ins_asc h1 o1 (fun x hx => h4 x hx m List.mem_cons_self) h2) o2 (fun x hx y hy => by
      rcases List.mem_cons.mp (hp.mem_iff.mp hx) with rfl | hx
      · exact n1 y hy
      · exact h4 x hx y (List.mem_cons_of_mem _ hy)) n2
    refine ⟨?_, i2⟩
    rw [List.foldl_cons]
    refine i1.trans ((hp.append_right F).trans ?_)
    rw [List.cons_append]
    exact List.perm_middle.symm
theorem srt_perm {F : List Mv} (h : okL F) (hn : nd F) : (srt F).Perm F := by
  have := (srt_facts (F := F) (o := []) okL_nil List.Pairwise.nil h (fun x hx => by cases hx) hn).1
  rw [List.nil_append] at this
  exact this
theorem srt_asc {F : List Mv} (h : okL F) (hn : nd F) : asc (srt F) := (srt_facts (F := F) (o := []) okL_nil List.Pairwise.nil h (fun x hx => by cases hx) hn).2
theorem uniq : ∀ {xs ys : List Mv}, okL xs → okL ys → asc xs → asc ys → (∀ m, m ∈ xs ↔ m ∈ ys) → xs = ys
  | [], [], _, _, _, _, _ => rfl
  | [], y :: ys, _, _, _, _, h => by
    have := (h y).mpr List.mem_cons_self
    cases this
  | x :: xs, [], _, _, _, _, h => by
    have := (h x).mp List.mem_cons_self
    cases this
  | x :: xs, y :: ys, h1, h2, h3, h4, h => by
    obtain ⟨o1, o2⟩ := okL_cons.mp h1
    obtain ⟨p1, p2⟩ := okL_cons.mp h2
    obtain ⟨a1, a2⟩ := List.pairwise_cons.mp h3
    obtain ⟨b1, b2⟩ := List.pairwise_cons.mp h4
    have e : x = y := by
      rcases List.mem_cons.mp ((h x).mp List.mem_cons_self) with e | hx
      · exact e
      · rcases List.mem_cons.mp ((h y).mpr List.mem_cons_self) with e | hy
        · exact e.symm
        · have q1 := b1 x hx
          have q2 := a1 y hy
          rw [kLt_asym o1 p1 q2] at q1
          cases q1
    subst e
    refine congrArg _ (uniq o2 p2 a2 b2 fun m => ⟨fun hm => ?_, fun hm => ?_⟩)
    · rcases List.mem_cons.mp ((h m).mp (List.mem_cons_of_mem _ hm)) with e | h'
      · subst e
        have := a1 m hm
        rw [kLt_irr o1] at this
        cases this
      · exact h'
    · rcases List.mem_cons.mp ((h m).mpr (List.mem_cons_of_mem _ hm)) with e | h'
      · subst e
        have := b1 m hm
        rw [kLt_irr o1] at this
        cases this
      · exact h'
/-- the flow of moves -/
def flw (ms : List Mv) : List Mv := srt ((fnd ms).filter fun m => decide (m.2 ≠ 0))
theorem flt_ok {F : List Mv} {p : Mv → Bool} (h : okL F) : okL (F.filter p) := fun m hm => h m (List.mem_filter.mp hm).1
theorem flt_nd {F : List Mv} {p : Mv → Bool} (h : nd F) : nd (F.filter p) := h.sublist List.filter_sublist
theorem flt_asc {F : List Mv} {p : Mv → Bool} (h : asc F) : asc (F.filter p) := h.sublist List.filter_sublist
theorem asc_nd {F : List Mv} (h : okL F) (ha : asc F) : nd F := by
  induction F with
  | nil => exact .nil
  | cons x xs ih =>
    obtain ⟨o1, o2⟩ := okL_cons.mp h
    obtain ⟨a1, a2⟩ := List.pairwise_cons.mp ha
    refine List.pairwise_cons.mpr ⟨fun y hy e => ?_, ih o2 a2⟩
    have := a1 y hy
    rw [← e, kLt_irr o1] at this
    cases this
theorem flw_perm {ms : List Mv} (h : okL ms) : (flw ms).Perm ((fnd ms).filter fun m => decide (m.2 ≠ 0)) := srt_perm (flt_ok (fnd_ok h)) (flt_nd (fnd_nd h))
theorem flw_ok {ms : List Mv} (h : okL ms) : okL (flw ms) := okL_perm (flw_perm h).symm (flt_ok (fnd_ok h))
theorem flw_asc {ms : List Mv} (h : okL ms) : asc (flw ms) := srt_asc (flt_ok (fnd_ok h)) (flt_nd (fnd_nd h))
theorem flw_len {ms : List Mv} (h : okL ms) : (flw ms).length ≤ ms.length := by
  rw [(flw_perm h).length_eq]
  exact Nat.le_trans (List.length_filter_le _ _) (fnd_len ms)
theorem flw_mem {ms : List Mv} (h : okL ms) {m : Mv} : m ∈ flw ms ↔ m.2 ≠ 0 ∧ okK m.1 ∧ wt ms m.1 = m.2 := by
  rw [(flw_perm h).mem_iff, List.mem_filter, decide_eq_true_eq]
  constructor
  · rintro ⟨h1, h2⟩
    have h3 := fnd_ok h m h1
    refine ⟨h2, h3, ?_⟩
    rw [← fnd_wt h]
    exact wt_mem (fnd_ok h) (fnd_nd h) h1
  · rintro ⟨h1, h2, h3⟩
    refine ⟨?_, h1⟩
    have h4 : wt (fnd ms) m.1 ≠ 0 := by rw [fnd_wt h, h3]; exact h1
    obtain ⟨x, hx, e⟩ := wt_has (fnd_ok h) h2 h4
    have h5 := wt_mem (fnd_ok h) (fnd_nd h) hx
    rw [e, fnd_wt h, h3] at h5
    have : x = m := Prod.ext e h5.symm
    rw [← this]
    exact hx
theorem flw_wt {ms : List Mv} (h : okL ms) {k : Ky} (hk : okK k) : wt (flw ms) k = wt ms k := by
  by_cases hz : wt ms k = 0
  · rw [hz]
    refine wt_zero fun m hm => ?_
    cases e : eqK m.1 k with
    | false => rfl
    | true =>
      obtain ⟨h1, h2, h3⟩ := (flw_mem h).mp hm
      rw [(eqK_iff h2 hk).mp e, hz] at h3
      exact absurd h3.symm h1
  · have hm : (k, wt ms k) ∈ flw ms := (flw_mem h).mpr ⟨hz, hk, rfl⟩
    exact wt_mem (flw_ok h) (asc_nd (flw_ok h) (flw_asc h)) hm
/-- flows are told by their weights -/
theorem flw_ext {as bs : List Mv} (ha : okL as) (hb : okL bs) (h : ∀ k, okK k → wt as k = wt bs k) : flw as = flw bs :=
  uniq (flw_ok ha) (flw_ok hb) (flw_asc ha) (flw_asc hb) fun m => by
    rw [flw_mem ha, flw_mem hb]
    constructor
    · rintro ⟨h1, h2, h3⟩
      exact ⟨h1, h2, by rw [← h _ h2, h3]⟩
    · rintro ⟨h1, h2, h3⟩
      exact ⟨h1, h2, by rw [h _ h2, h3]⟩
/-- .. and what is a flow is its own -/
theorem flw_is {F ms : List Mv} (hF : okL F) (hm : okL ms) (ha : asc F) (h : ∀ m ∈ F, m.2 ≠ 0) (hw : ∀ k, okK k → wt F k = wt ms k) : F = flw ms :=
  uniq hF (flw_ok hm) ha (flw_asc hm) fun m => by
    rw [flw_mem hm]
    constructor
    · intro h1
      exact ⟨h m h1, hF m h1, by rw [← hw _ (hF m h1)]; exact wt_mem hF (asc_nd hF ha) h1⟩
    · rintro ⟨h1, h2, h3⟩
      rw [← hw _ h2] at h3
      obtain ⟨x, hx, e⟩ := wt_has hF h2 (by rw [h3]; exact h1)
      have h5 := wt_mem hF (asc_nd hF ha) hx
      rw [e, h3] at h5
      have e6 : x = m := Prod.ext e h5.symm
      rw [← e6]
      exact hx
theorem flw_nz {ms : List Mv} (h : okL ms) : ∀ m ∈ flw ms, m.2 ≠ 0 := fun m hm => ((flw_mem h).mp hm).1
theorem flw_flw {ms : List Mv} (h : okL ms) : flw (flw ms) = flw ms := (flw_is (flw_ok h) (flw_ok h) (flw_asc h) (flw_nz h) fun _ _ => rfl).symm
/-- the sorted list's nonzero moves are the flow -/
theorem srt_flw {ms : List Mv} (h : okL ms) : (srt (fnd ms)).filter (fun m => decide (m.2 ≠ 0)) = flw ms := by
  have hp := srt_perm (fnd_ok h) (fnd_nd h)
  refine uniq (flt_ok (okL_perm hp.symm (fnd_ok h))) (flw_ok h) (flt_asc (srt_asc (fnd_ok h) (fnd_nd h))) (flw_asc h) fun m => ?_
  rw [List.mem_filter, hp.mem_iff, (flw_perm h).mem_iff, List.mem_filter]
/-- the place of a move in a sorted list -/
theorem ins_take {m : Mv} : ∀ {xs : List Mv}, okL xs → okK m.1 → asc xs → xs.take (xs.filter fun o => kLt o.1 m.1).length ++ [m] ++ xs.drop (xs.filter fun o => kLt o.1 m.1).length = ins m xs
  | [], _, _, _ => rfl
  | x :: xs, h, hm, ha => by
    obtain ⟨h1, h2⟩ := okL_cons.mp h
    obtain ⟨a1, a2⟩ := List.pairwise_cons.mp ha
    unfold ins
    by_cases e : kLt x.1 m.1 = true
    · rw [if_pos e, List.filter_cons_of_pos (by exact e), List.length_cons, List.take_succ_cons, List.drop_succ_cons, List.cons_append, List.cons_append, ins_take h2 hm a2]
    · rw [if_neg e]
      have : ((x :: xs).filter fun o => kLt o.1 m.1) = [] := by
        rw [List.filter_eq_nil_iff]
        intro y hy
        rcases List.mem_cons.mp hy with rfl | hy
        · exact e
        · exact fun q => e (kLt_trans h1 (h2 y hy) hm (a1 y hy) q)
      rw [this]
      rfl
/-! keys in dicts -/
mutual
theorem nkOf_inj : ∀ (d e : D) (k : NestedKey), nkOf d = some k → nkOf e = some k → d = e
  | .none, e, k, h1, h2 => by
    cases h1
    cases e <;> simp only [nkOf] at h2 <;> first | rfl | cases h2 | skip
    obtain ⟨_, _, q⟩ := bind_some h2
    cases q
  | .int i, e, k, h1, h2 => by
    cases h1
    cases e <;> simp only [nkOf] at h2 <;> first | (cases h2; rfl) | cases h2 | skip
    obtain ⟨_, _, q⟩ := bind_some h2
    cases q
  | .str x, e, k, h1, h2 => by
    cases h1
    cases e <;> simp only [nkOf] at h2 <;> first | (cases h2; rfl) | cases h2 | skip
    obtain ⟨_, _, q⟩ := bind_some h2
    cases q
  | .tuple xs, e, k, h1, h2 => by
    obtain ⟨ks, q1, q2⟩ := bind_some (show (nkAll xs).bind (fun ks => some (NestedKey.tup ks)) = some k from h1)
    cases q2
    cases e <;> simp only [nkOf] at h2 <;> first | cases h2 | skip
    obtain ⟨ks', q3, q4⟩ := bind_some h2
    cases q4
    rw [nkAll_inj _ _ _ q1 q3]
  | .bool _, _, _, h1, _ => by cases h1
  | .list _, _, _, h1, _ => by cases h1
  | .dict _, _, _, h1, _ => by cases h1
theorem nkAll_inj : ∀ (ds es : List D) (ks : List NestedKey), nkAll ds = some ks → nkAll es = some ks → ds = es
  | [], es, ks, h1, h2 => by
    cases h1
    cases es with
    | nil => rfl
    | cons e es =>
      obtain ⟨_, _, q⟩ := bind_some (show (nkOf e).bind (fun k => (nkAll es).bind fun ks => some (k :: ks)) = _ from h2)
      obtain ⟨_, _, q⟩ := bind_some q
      cases q
  | d :: ds, es, ks, h1, h2 => by
    obtain ⟨k, p1, q⟩ := bind_some (show (nkOf d).bind (fun k => (nkAll ds).bind fun ks => some (k :: ks)) = _ from h1)
    obtain ⟨ks', p2, q⟩ := bind_some q
    cases q
    cases es with
    | nil => cases h2
    | cons e es =>
      obtain ⟨k2, p3, q⟩ := bind_some (show (nkOf e).bind (fun k => (nkAll es).bind fun ks => some (k :: ks)) = _ from h2)
      obtain ⟨ks2, p4, q⟩ := bind_some q
      cases q
      rw [nkOf_inj _ _ _ p1 p3, nkAll_inj _ _ _ p2 p4]
end
theorem nkD_of {d : D} {k : NestedKey} (h1 : nkOf d = some k) (h2 : k.depth ≤ 8) (h3 : d.canLay0 = true) : nkD d = some k := by
  unfold nkD
  rw [h1]
  exact if_pos ⟨h2, h3⟩
theorem nk_vo {v : D} (h : gv v) : ∃ k, nkOf (vo v) = some k ∧ k.depth ≤ 1 := by
  rcases gv_cases h with rfl | ⟨b, rfl⟩ | ⟨i, rfl⟩ | ⟨s, rfl⟩ <;> exact ⟨_, rfl, by simp [NestedKey.depth, NestedKey.depthAll]⟩
theorem nk_vos : ∀ {xs : List D}, (∀ v ∈ xs, gv v) → ∃ ks, nkAll (xs.map vo) = some ks ∧ NestedKey.depthAll ks ≤ 1
  | [], _ => ⟨[], rfl, by simp [NestedKey.depthAll]⟩
  | x :: xs, h => by
    obtain ⟨k, h1, h2⟩ := nk_vo (h x List.mem_cons_self)
    obtain ⟨ks, h3, h4⟩ := nk_vos fun v hv => h v (List.mem_cons_of_mem _ hv)
    refine ⟨k :: ks, ?_, ?_⟩
    · rw [List.map_cons]
      show (nkOf (vo x)).bind (fun k => (nkAll (xs.map vo)).bind fun ks => some (k :: ks)) = _
      rw [h1, h3]
      rfl
    · rw [NestedKey.depthAll]
      omega
theorem nk_ky {k : Ky} (h : okK k) : ∃ n, nkD (kyD k) = some n := by
  obtain ⟨ks, h1, h2⟩ := nk_vos h.1
  refine ⟨.tup [.num k.1, .tup ks], nkD_of ?_ ?_ (ky_ord h).2.1⟩
  · show (nkAll [.int k.1, .tuple (k.2.map vo)]).bind (fun ks => some (NestedKey.tup ks)) = _
    have e : nkOf (.tuple (k.2.map vo)) = some (.tup ks) := by
      show (nkAll (k.2.map vo)).bind (fun ks => some (NestedKey.tup ks)) = _
      rw [h1]
      rfl
    have e2 : nkAll [.int k.1, .tuple (k.2.map vo)] = some [.num k.1, .tup ks] := by
      show (nkOf (.int k.1)).bind (fun a => ((nkOf (.tuple (k.2.map vo))).bind fun b => (nkAll []).bind fun r => some (b :: r)).bind fun r => some (a :: r)) = _
      rw [e]
      rfl
    rw [e2]
    rfl
  · simp [NestedKey.depth, NestedKey.depthAll]
    omega
theorem vo_inj {a b : D} (ha : gv a) (hb : gv b) (h : vo a = vo b) : a = b := by
  have e := eqv_vo ha hb
  rw [h, eqv_self _ (ord_vo hb).1] at e
  have e2 : ltV a b = false ∧ ltV b a = false := by simpa using e.symm
  exact ltV_eq ha hb e2.1 e2.2
theorem vos_inj : ∀ {xs ys : List D}, (∀ v ∈ xs, gv v) → (∀ v ∈ ys, gv v) → xs.map vo = ys.map vo → xs = ys
  | [], [], _, _, _ => rfl
  | [], _ :: _, _, _, h => by simp at h
  | _ :: _, [], _, _, h => by simp at h
  | x :: xs, y :: ys, hx, hy, h => by
    rw [List.map_cons, List.map_cons] at h
    injection h with h1 h2
    rw [vo_inj (hx x List.mem_cons_self) (hy y List.mem_cons_self) h1, vos_inj (fun v hv => hx v (List.mem_cons_of_mem _ hv)) (fun v hv => hy v (List.mem_cons_of_mem _ hv)) h2]
theorem ky_inj {a b : Ky} (ha : okK a) (hb : okK b) (h : kyD a = kyD b) : a = b := by
  unfold kyD at h
  injection h with h
  injection h with h1 h2
  injection h1 with h1
  injection h2 with h2
  injection h2 with h2
  exact Prod.ext h1 (vos_inj ha.1 hb.1 h2)
theorem nk_eq {a b : Ky} (ha : okK a) (hb : okK b) : decide (nkD (kyD a) = nkD (kyD b)) = eqK a b := by
  rw [Bool.eq_iff_iff, decide_eq_true_eq, eqK_iff ha hb]
  constructor
  · intro h
    obtain ⟨n, hn⟩ := nk_ky ha
    rw [hn] at h
    obtain ⟨h1, _, _⟩ := nkD_some hn
    obtain ⟨h2, _, _⟩ := nkD_some h.symm
    exact ky_inj ha hb (nkOf_inj _ _ _ h1 h2)
  · rintro rfl
    rfl
def rowsD (F : List Mv) : List (D × D) := F.map fun m => (kyD m.1, .tuple m.1.2)
def wtsD (F : List Mv) : List (D × D) := F.map fun m => (kyD m.1, .int m.2)
/-- setting a key of a table that is drawn from moves -/
theorem put_gen {f : Mv → D} {k : Ky} {d : D} : ∀ {F : List Mv}, okL F → okK k → putD (F.map fun m => (kyD m.1, f m)) (kyD k) d = if F.any (fun m => eqK m.1 k) = true then F.map (fun m => (kyD m.1, if eqK m.1 k = true then d else f m)) else (F.map fun m => (kyD m.1, f m)) ++ [(kyD k, d)] := by
  intro F h hk
  unfold putD
  have e1 : ((F.map fun m => (kyD m.1, f m)).any fun p => decide (nkD p.1 = nkD (kyD k))) = F.any fun m => eqK m.1 k := by
    rw [List.any_map]
    induction F with
    | nil => rfl
    | cons x xs ih =>
      obtain ⟨o1, o2⟩ := okL_cons.mp h
      rw [List.any_cons, List.any_cons, ih o2]
      show (decide (nkD (kyD x.1) = nkD (kyD k)) || _) = _
      rw [nk_eq o1 hk]
  rw [e1]
  split
  · rw [List.map_map]
    refine List.map_congr_left fun m hm => ?_
    show (if nkD (kyD m.1) = nkD (kyD k) then (kyD m.1, d) else (kyD m.1, f m)) = _
    have e2 := nk_eq (h m hm) hk
    by_cases z : eqK m.1 k = true
    · rw [if_pos z, if_pos (by rw [z] at e2; exact of_decide_eq_true e2)]
    · have z' : eqK m.1 k = false := by simpa using z
      rw [if_neg z, if_neg (by rw [z'] at e2; exact of_decide_eq_false e2)]
  · rfl
theorem addF_new {m : Mv} : ∀ {F : List Mv}, F.any (fun x => eqK x.1 m.1) = false → addF F m = F ++ [m]
  | [], _ => rfl
  | x :: xs, h => by
    rw [List.any_cons, Bool.or_eq_false_iff] at h
    unfold addF
    rw [h.1, if_neg (by decide), addF_new h.2]
    rfl
theorem addF_old {m : Mv} : ∀ {F : List Mv}, okL F → nd F → okK m.1 → F.any (fun x => eqK x.1 m.1) = true → addF F m = F.map fun x => if eqK x.1 m.1 = true then (x.1, x.2 + m.2) else x
  | [], _, _, _, h => by cases h
  | x :: xs, h, hn, hm, ha => by
    obtain ⟨o1, o2⟩ := okL_cons.mp h
    obtain ⟨n1, n2⟩ := List.pairwise_cons.mp hn
    unfold addF
    rw [List.map_cons]
    by_cases e : eqK x.1 m.1 = true
    · rw [if_pos e, if_pos e]
      refine congrArg _ (Eq.symm ?_)
      refine Eq.trans (List.map_congr_left (g := id) fun y hy => ?_) (List.map_id _)
      have : eqK y.1 m.1 = false := by
        cases q : eqK y.1 m.1 with
        | false => rfl
        | true => exact absurd (((eqK_iff o1 hm).mp e).trans ((eqK_iff (o2 y hy) hm).mp q).symm) (n1 y hy)
      rw [this]
      rfl
    · rw [if_neg e, if_neg e, addF_old o2 n2 hm (by simpa [e] using ha)]
theorem put_rows {F : List Mv} {m : Mv} (h : okL F) (hn : nd F) (hm : okK m.1) : putD (rowsD F) (kyD m.1) (.tuple m.1.2) = rowsD (addF F m) := by
  unfold rowsD
  rw [put_gen (f := fun m => .tuple m.1.2) h hm]
  cases e : F.any fun x => eqK x.1 m.1 with
  | true =>
    rw [if_pos rfl, addF_old h hn hm e, List.map_map]
    refine List.map_congr_left fun x hx => ?_
    by_cases z : eqK x.1 m.1 = true
    · show (kyD x.1, if eqK x.1 m.1 = true then _ else _) = (kyD (if eqK x.1 m.1 = true then (x.1, x.2 + m.2) else x).1, PyData.tuple (if eqK x.1 m.1 = true then (x.1, x.2 + m.2) else x).1.2)
      rw [if_pos z, if_pos z, ← (eqK_iff (h x hx) hm).mp z]
    · show (kyD x.1, if eqK x.1 m.1 = true then _ else _) = (kyD (if eqK x.1 m.1 = true then (x.1, x.2 + m.2) else x).1, PyData.tuple (if eqK x.1 m.1 = true then (x.1, x.2 + m.2) else x).1.2)
      rw [if_neg z, if_neg z]
  | false =>
    rw [if_neg (by decide), addF_new e, List.map_append]
    rfl
theorem at_wts {F : List Mv} {k : Ky} (h : okL F) (hn : nd F) (hk : okK k) : (atD (wtsD F) (kyD k)).getD (.int 0) = .int (wt F k) := by
  induction F with
  | nil => rfl
  | cons x xs ih =>
    obtain ⟨o1, o2⟩ := okL_cons.mp h
    obtain ⟨n1, n2⟩ := List.pairwise_cons.mp hn
    have ih := ih o2 n2
    unfold atD wtsD at ih ⊢
    rw [List.map_cons, List.find?_cons, wt_cons]
    show ((match decide (nkD (kyD x.1) = nkD (kyD k)) with | true => _ | false => _ : Option (D × D)).map _).getD _ = _
    rw [nk_eq o1 hk]
    cases e : eqK x.1 k with
    | true =>
      rw [wt_zero fun y hy => ?_]
      · simp
      · have e2 := (eqK_iff o1 hk).mp e
        cases q : eqK y.1 k with
        | false => rfl
        | true => exact absurd (e2.trans ((eqK_iff (o2 y hy) hk).mp q).symm) (n1 y hy)
    | false => simpa using ih
theorem put_wts {F : List Mv} {m : Mv} (h : okL F) (hn : nd F) (hm : okK m.1) : putD (wtsD F) (kyD m.1) (.int (wt F m.1 + m.2)) = wtsD (addF F m) := by
  unfold wtsD
  rw [put_gen (f := fun m => .int m.2) h hm]
  cases e : F.any fun x => eqK x.1 m.1 with
  | true =>
    rw [if_pos rfl, addF_old h hn hm e, List.map_map]
    refine List.map_congr_left fun x hx => ?_
    show (kyD x.1, if eqK x.1 m.1 = true then _ else _) = (kyD (if eqK x.1 m.1 = true then (x.1, x.2 + m.2) else x).1, PyData.int (if eqK x.1 m.1 = true then (x.1, x.2 + m.2) else x).2)
    by_cases z : eqK x.1 m.1 = true
    · rw [if_pos z, if_pos z, ← (eqK_iff (h x hx) hm).mp z, wt_mem h hn hx]
    · rw [if_neg z, if_neg z]
  | false =>
    rw [if_neg (by decide), addF_new e, List.map_append]
    have : wt F m.1 = 0 := wt_zero fun x hx => by
      rw [List.any_eq_false] at e
      simpa using e x hx
    rw [this, Int.zero_add]
    rfl
theorem at_gen {f : Mv → D} {m : Mv} : ∀ {F : List Mv}, okL F → nd F → m ∈ F → atD (F.map fun m => (kyD m.1, f m)) (kyD m.1) = some (f m)
  | x :: xs, h, hn, hm => by
    obtain ⟨o1, o2⟩ := okL_cons.mp h
    obtain ⟨n1, n2⟩ := List.pairwise_cons.mp hn
    have hk : okK m.1 := h m hm
    unfold atD
    rw [List.map_cons, List.find?_cons]
    show ((match decide (nkD (kyD x.1) = nkD (kyD m.1)) with | true => _ | false => _ : Option (D × D)).map _) = _
    rw [nk_eq o1 hk]
    rcases List.mem_cons.mp hm with rfl | hm
    · rw [eqK_self hk]
      rfl
    · have : eqK x.1 m.1 = false := by
        cases q : eqK x.1 m.1 with
        | false => rfl
        | true => exact absurd ((eqK_iff o1 hk).mp q) (n1 m hm)
      rw [this]
      exact at_gen o2 n2 hm
theorem at_rows {F : List Mv} {m : Mv} (h : okL F) (hn : nd F) (hm : m ∈ F) : atD (rowsD F) (kyD m.1) = some (.tuple m.1.2) := at_gen h hn hm
theorem at_wts2 {F : List Mv} {m : Mv} (h : okL F) (hn : nd F) (hm : m ∈ F) : atD (wtsD F) (kyD m.1) = some (.int m.2) := at_gen h hn hm
theorem sortOk_kys {F : List Mv} (h : okL F) (hl : F.length ≤ 16777216) : sortOk (F.map fun m => kyD m.1) = true := by
  unfold sortOk
  simp only [Bool.and_eq_true, List.all_eq_true, decide_eq_true_eq, Bool.or_eq_true]
  refine ⟨⟨⟨by rw [List.length_map]; exact hl, fun d hd => ?_⟩, fun d hd e he => ?_⟩, .inl (.inl fun d hd => ?_)⟩
  · obtain ⟨m, hm, rfl⟩ := List.mem_map.mp hd
    obtain ⟨o1, o2, o3, o4⟩ := ky_ord (h m hm)
    exact ⟨⟨o1, o2⟩, by omega⟩
  · obtain ⟨m, hm, rfl⟩ := List.mem_map.mp hd
    obtain ⟨n, hn, rfl⟩ := List.mem_map.mp he
    rw [ltB_ky (h m hm) (h n hn)]
    rfl
  · obtain ⟨m, hm, rfl⟩ := List.mem_map.mp hd
    exact (ky_ord (h m hm)).2.2.2
theorem sort_kys {F : List Mv} (h : okL F) (hn : nd F) : (F.map fun m => kyD m.1).mergeSort leD3 = (srt F).map fun m => kyD m.1 := by
  refine (sort_one (fun d hd => ?_) ((srt_perm h hn).map _) ?_).symm
  · obtain ⟨m, hm, rfl⟩ := List.mem_map.mp hd
    exact (ky_ord (h m hm)).1
  · rw [List.pairwise_map]
    have ho := okL_perm (srt_perm h hn).symm h
    refine (srt_asc h hn).imp_of_mem fun {a b} ha hb q => ?_
    rw [cmp_ky (ho b hb) (ho a ha)]
    exact kLt_asym (ho a ha) (ho b hb) q
theorem tup_ky (k : Ky) : keyTup (kyD k) = true := rfl
end Lw
set_option maxHeartbeats 4000000
/-! groups by keys, in plain Lean -/
namespace Lw
open PySem Dn Dm DnSo
/-- a key: values of some columns -/
def okR (r : List D) : Prop := (∀ v ∈ r, gv v) ∧ r.length ≤ 1000
def kyR (κ : List D) : D := .tuple (κ.map vo)
def eqR (a b : List D) : Bool := !ltR a b && !ltR b a
theorem eqR_iff {a b : List D} (ha : okR a) (hb : okR b) : eqR a b = true ↔ a = b := by
  unfold eqR
  rw [Bool.and_eq_true, Bool.not_eq_true', Bool.not_eq_true']
  constructor
  · rintro ⟨h1, h2⟩
    exact ltR_eq ha.1 hb.1 h1 h2
  · rintro rfl
    exact ⟨ltR_irr ha.1, ltR_irr ha.1⟩
theorem eqR_self {a : List D} (ha : okR a) : eqR a a = true := (eqR_iff ha ha).mpr rfl
theorem nk_kyR {κ : List D} (h : okR κ) : ∃ n, nkD (kyR κ) = some n := by
  obtain ⟨ks, h1, h2⟩ := nk_vos h.1
  obtain ⟨o1, o2, o3⟩ := vo_ord h.1
  refine ⟨.tup ks, nkD_of ?_ ?_ ?_⟩
  · show (nkAll (κ.map vo)).bind (fun ks => some (NestedKey.tup ks)) = _
    rw [h1]
    rfl
  · simp [NestedKey.depth]
    omega
  · simpa [kyR, PyData.canLay0] using o2
theorem kyR_inj {a b : List D} (ha : okR a) (hb : okR b) (h : kyR a = kyR b) : a = b := by
  unfold kyR at h
  injection h with h
  exact vos_inj ha.1 hb.1 h
theorem nkR_eq {a b : List D} (ha : okR a) (hb : okR b) : (nkD (kyR a) = nkD (kyR b)) ↔ eqR a b = true := by
  rw [eqR_iff ha hb]
  constructor
  · intro h
    obtain ⟨n, hn⟩ := nk_kyR ha
    rw [hn] at h
    obtain ⟨h1, _, _⟩ := nkD_some hn
    obtain ⟨h2, _, _⟩ := nkD_some h.symm
    exact kyR_inj ha hb (nkOf_inj _ _ _ h1 h2)
  · rintro rfl
    rfl
section
variable {α : Type} (f : α → List D) (h : α → D)
def addK (K : List (List D)) (κ : List D) : List (List D) := if K.any (fun x => eqR x κ) = true then K else K ++ [κ]
def keysOf (xs : List α) : List (List D) := xs.foldl (fun K x => addK K (f x)) []
def inG (κ : List D) (xs : List α) : List α := xs.filter fun x => eqR (f x) κ
def grpE (xs : List α) : List (D × D) := (keysOf f xs).map fun κ => (kyR κ, .list ((inG f κ xs).map h))
end
variable {α : Type} {f : α → List D} {h : α → D}
def okKs (K : List (List D)) : Prop := (∀ κ ∈ K, okR κ) ∧ K.Pairwise (· ≠ ·)
theorem addK_ok {K : List (List D)} {κ : List D} (hK : okKs K) (hκ : okR κ) : okKs (addK K κ) := by
  unfold addK
  split
  · exact hK
  · rename_i hn
    refine ⟨fun x hx => ?_, List.pairwise_append.mpr ⟨hK.2, List.pairwise_singleton _ _, fun a ha b hb e => ?_⟩⟩
    · rcases List.mem_append.mp hx with hx | hx
      · exact hK.1 x hx
      · rw [List.mem_singleton.mp hx]
        exact hκ
    · rw [List.mem_singleton.mp hb] at e
      subst e
      exact hn (List.any_eq_true.mpr ⟨a, ha, eqR_self hκ⟩)
theorem addK_has {K : List (List D)} {κ : List D} (hK : okKs K) (hκ : okR κ) : κ ∈ addK K κ ∧ ∀ x ∈ K, x ∈ addK K κ := by
  unfold addK
  split
  · rename_i hy
    obtain ⟨x, hx, e⟩ := List.any_eq_true.mp hy
    rw [(eqR_iff (hK.1 x hx) hκ).mp e] at hx
    exact ⟨hx, fun _ h => h⟩
  · exact ⟨by simp, fun x hx => List.mem_append_left _ hx⟩
theorem addK_len (K : List (List D)) (κ : List D) : (addK K κ).length ≤ K.length + 1 := by
  unfold addK
  split
  · omega
  · simp
theorem keysOf_snoc (f : α → List D) (xs : List α) (x : α) : keysOf f (xs ++ [x]) = addK (keysOf f xs) (f x) := by
  unfold keysOf
  rw [List.foldl_append]
  rfl
theorem keysOf_facts {xs : List α} (hx : ∀ x ∈ xs, okR (f x)) : okKs (keysOf f xs) ∧ (∀ x ∈ xs, f x ∈ keysOf f xs) ∧ (keysOf f xs).length ≤ xs.length := by
  have go : ∀ (ys : List α) (K : List (List D)), (∀ x ∈ ys, okR (f x)) → okKs K → okKs (ys.foldl (fun K x => addK K (f x)) K) ∧ (∀ x ∈ ys, f x ∈ ys.foldl (fun K x => addK K (f x)) K) ∧ (∀ κ ∈ K, κ ∈ ys.foldl (fun K x => addK K (f x)) K) ∧ (ys.foldl (fun K x => addK K (f x)) K).length ≤ K.length + ys.length := by
    intro ys
    induction ys with
    | nil => exact fun K _ hK => ⟨hK, by simp, fun κ h => h, Nat.le_refl _⟩
    | cons y ys ih =>
      intro K hy hK
      have oy := hy y List.mem_cons_self
      obtain ⟨i1, i2, i3, i4⟩ := ih (addK K (f y)) (fun x hx => hy x (List.mem_cons_of_mem _ hx)) (addK_ok hK oy)
      have hl := addK_len K (f y)
      refine ⟨i1, fun x hx => ?_, fun κ hκ => i3 κ ((addK_has hK oy).2 κ hκ), by rw [List.foldl_cons, List.length_cons]; omega⟩
      rcases List.mem_cons.mp hx with rfl | hx
      · exact i3 _ (addK_has hK oy).1
      · exact i2 x hx
  obtain ⟨a, b, _, c⟩ := go xs [] hx ⟨by simp, List.Pairwise.nil⟩
  exact ⟨a, b, by rw [List.length_nil, Nat.zero_add] at c; exact c⟩
theorem appG_map {g : List D → List D} {κ : List D} {d : D} (hκ : okR κ) : ∀ {K : List (List D)}, okKs K → appG (K.map fun x => (kyR x, .list (g x))) (kyR κ) d =
    if K.any (fun x => eqR x κ) = true then K.map fun x => (kyR x, .list (if eqR x κ = true then g x ++ [d] else g x)) else (K.map fun x => (kyR x, .list (g x))) ++ [(kyR κ, .list [d])]
  | [], _ => rfl
  | x :: K, hK => by
    have ox := hK.1 x List.mem_cons_self
    obtain ⟨n1, n2⟩ := List.pairwise_cons.mp hK.2
    have ih := appG_map (g := g) (d := d) hκ (K := K) ⟨fun y hy => hK.1 y (List.mem_cons_of_mem _ hy), n2⟩
    rw [List.map_cons, appG, List.any_cons]
    by_cases e : eqR x κ = true
    · rw [if_pos ((nkR_eq ox hκ).mpr e), e, Bool.true_or, if_pos rfl, List.map_cons, if_pos e]
      refine congrArg _ (List.map_congr_left fun y hy => ?_)
      have : eqR y κ = false := by
        cases q : eqR y κ with
        | false => rfl
        | true => exact absurd (((eqR_iff ox hκ).mp e).trans ((eqR_iff (hK.1 y (List.mem_cons_of_mem _ hy)) hκ).mp q).symm) (n1 y hy)
      rw [this, if_neg (by decide)]
    · rw [if_neg (fun q => e ((nkR_eq ox hκ).mp q)), ih]
      have e' : eqR x κ = false := by simpa using e
      rw [e', Bool.false_or]
      split
      · rw [List.map_cons, e', if_neg (by decide)]
      · rfl
theorem inG_snoc (κ : List D) (xs : List α) (x : α) : inG f κ (xs ++ [x]) = if eqR (f x) κ = true then inG f κ xs ++ [x] else inG f κ xs := by
  unfold inG
  rw [List.filter_append]
  by_cases e : eqR (f x) κ = true
  · rw [if_pos e, List.filter_cons_of_pos (p := fun x => eqR (f x) κ) e]
    rfl
  · rw [if_neg e, List.filter_cons_of_neg (p := fun x => eqR (f x) κ) e, List.filter_nil, List.append_nil]
theorem eqR_comm {a b : List D} : eqR a b = eqR b a := by
  unfold eqR
  rw [Bool.and_comm]
theorem grpE_snoc {xs : List α} {x : α} (hx : ∀ y ∈ xs ++ [x], okR (f y)) : appG (grpE f h xs) (kyR (f x)) (h x) = grpE f h (xs ++ [x]) := by
  have ox := hx x (by simp)
  have hxs : ∀ y ∈ xs, okR (f y) := fun y hy => hx y (List.mem_append_left _ hy)
  obtain ⟨k1, k2, k3⟩ := keysOf_facts hxs
  unfold grpE
  rw [appG_map (g := fun κ => (inG f κ xs).map h) ox k1, keysOf_snoc]
  unfold addK
  split
  · refine List.map_congr_left fun κ hκ => ?_
    rw [inG_snoc, eqR_comm]
    by_cases e : eqR (f x) κ = true
    · rw [if_pos e, if_pos e, List.map_append]
      rfl
    · rw [if_neg e, if_neg e]
  · rename_i hn
    rw [List.map_append]
    congr 1
    · refine List.map_congr_left fun κ hκ => ?_
      have e : eqR (f x) κ = false := by
        cases q : eqR (f x) κ with
        | false => rfl
        | true => exact absurd (List.any_eq_true.mpr ⟨κ, hκ, by rw [eqR_comm]; exact q⟩) hn
      rw [inG_snoc, e, if_neg (by decide)]
    · have e2 : inG f (f x) xs = [] := List.filter_eq_nil_iff.mpr fun y hy q => hn (List.any_eq_true.mpr ⟨f y, k2 y hy, q⟩)
      rw [List.map_cons, List.map_nil, inG_snoc, eqR_self ox, if_pos rfl, e2]
      rfl
theorem lenG_map {g : List D → List D} {κ : List D} {n : Nat} : ∀ {K : List (List D)}, (∀ x ∈ K, (g x).length ≤ n) → lenG (K.map fun x => (kyR x, .list (g x))) (kyR κ) ≤ n
  | [], _ => Nat.zero_le _
  | x :: K, hK => by
    rw [List.map_cons, lenG]
    split
    · exact hK x List.mem_cons_self
    · exact lenG_map fun y hy => hK y (List.mem_cons_of_mem _ hy)
theorem grpE_len {xs : List α} (κ : List D) : lenG (grpE f h xs) (kyR κ) ≤ xs.length := lenG_map fun x _ => by
  rw [List.length_map]
  exact List.length_filter_le _ _
theorem keysTup_map {g : List D → D} (K : List (List D)) : keysTup (K.map fun κ => (kyR κ, g κ)) = true := by
  unfold keysTup
  rw [List.all_map, List.all_eq_true]
  exact fun _ _ => rfl
theorem atD_map {g : List D → D} {κ : List D} : ∀ {K : List (List D)}, okKs K → κ ∈ K → atD (K.map fun x => (kyR x, g x)) (kyR κ) = some (g κ)
  | x :: K, hK, hκ => by
    have ox := hK.1 x List.mem_cons_self
    have oκ := hK.1 κ hκ
    obtain ⟨n1, n2⟩ := List.pairwise_cons.mp hK.2
    unfold atD
    rw [List.map_cons, List.find?_cons]
    show ((match decide (nkD (kyR x) = nkD (kyR κ)) with | true => _ | false => _ : Option (D × D)).map _) = _
    by_cases e : eqR x κ = true
    · rw [decide_eq_true ((nkR_eq ox oκ).mpr e)]
      have := (eqR_iff ox oκ).mp e
      rw [← this]
      rfl
    · rw [decide_eq_false fun q => e ((nkR_eq ox oκ).mp q)]
      rcases List.mem_cons.mp hκ with rfl | hκ
      · exact absurd (eqR_self ox) e
      · exact atD_map ⟨fun y hy => hK.1 y (List.mem_cons_of_mem _ hy), n2⟩ hκ
theorem atD_none {g : List D → D} {κ : List D} (oκ : okR κ) : ∀ {K : List (List D)}, okKs K → κ ∉ K → atD (K.map fun x => (kyR x, g x)) (kyR κ) = none
  | [], _, _ => rfl
  | x :: K, hK, hκ => by
    have ox := hK.1 x List.mem_cons_self
    unfold atD
    rw [List.map_cons, List.find?_cons]
    show ((match decide (nkD (kyR x) = nkD (kyR κ)) with | true => _ | false => _ : Option (D × D)).map _) = _
    have e : ¬ eqR x κ = true := fun q => hκ (by rw [(eqR_iff ox oκ).mp q]; exact List.mem_cons_self)
    rw [decide_eq_false fun q => e ((nkR_eq ox oκ).mp q)]
    exact atD_none oκ ⟨fun y hy => hK.1 y (List.mem_cons_of_mem _ hy), (List.pairwise_cons.mp hK.2).2⟩ fun q => hκ (List.mem_cons_of_mem _ q)
theorem kyR_ord {κ : List D} (h : okR κ) : (ord0 (kyR κ) = true ∧ (kyR κ).canLay0 = true) ∧ (kyR κ).depth ≤ 8 := by
  obtain ⟨o1, o2, o3⟩ := vo_ord h.1
  refine ⟨⟨?_, ?_⟩, ?_⟩
  · simpa [kyR, ord0] using o1
  · simpa [kyR, PyData.canLay0] using o2
  · simp [kyR, PyData.depth]
    omega
/-- the keys can be sorted: all have a first column, or there is one key at most -/
theorem sortOkN_keys {K : List (List D)} (hK : okKs K) (hl : K.length ≤ 16777216) (hn : (∀ κ ∈ K, κ ≠ []) ∨ K.length < 2) : sortOkN (K.map kyR) = true := by
  have facts : ∀ d ∈ K.map kyR, (ord0 d = true ∧ d.canLay0 = true) ∧ d.depth ≤ 8 := fun d hd => by
    obtain ⟨κ, hκ, rfl⟩ := List.mem_map.mp hd
    exact kyR_ord (hK.1 κ hκ)
  unfold sortOkN
  rw [Bool.or_eq_true]
  rcases hn with hn | hn
  · refine .inl ?_
    unfold sortOk
    simp only [Bool.and_eq_true, List.all_eq_true, decide_eq_true_eq, Bool.or_eq_true]
    refine ⟨⟨⟨by rw [List.length_map]; exact hl, facts⟩, fun d hd e he => ?_⟩, .inl (.inr fun d hd => ?_)⟩
    · obtain ⟨κ, hκ, rfl⟩ := List.mem_map.mp hd
      obtain ⟨κ', hκ', rfl⟩ := List.mem_map.mp he
      show (DnLt.ltB (.tuple (κ.map vo)) (.tuple (κ'.map vo))).isSome = true
      rw [DnLt.ltB, ltA_vo (hK.1 κ hκ).1 (hK.1 κ' hκ').1]
      rfl
    · obtain ⟨κ, hκ, rfl⟩ := List.mem_map.mp hd
      cases κ with
      | nil => exact absurd rfl (hn _ hκ)
      | cons v κ =>
        show isT (vo v) = true
        obtain ⟨ds, e⟩ := vo_tup v
        rw [e]
        rfl
  · refine .inr ?_
    simp only [Bool.and_eq_true, List.all_eq_true, decide_eq_true_eq]
    exact ⟨by rw [List.length_map]; exact hn, facts⟩
theorem perm_unmap {β : Type} {g : β → D} {l1 l2 : List D} (p : l1.Perm l2) : ∀ xs : List β, l2 = xs.map g → ∃ ys : List β, l1 = ys.map g ∧ ys.Perm xs := by
  induction p with
  | nil =>
    intro xs e
    have : xs = [] := List.map_eq_nil_iff.mp e.symm
    subst this
    exact ⟨[], rfl, .refl _⟩
  | cons a p ih =>
    intro xs e
    cases xs with
    | nil => cases e
    | cons x xs =>
      rw [List.map_cons] at e
      injection e with e1 e2
      obtain ⟨ys, h1, h2⟩ := ih xs e2
      exact ⟨x :: ys, by rw [List.map_cons, e1, h1], h2.cons x⟩
  | swap a b l =>
    intro xs e
    cases xs with
    | nil => cases e
    | cons x xs =>
      cases xs with
      | nil => cases e
      | cons y xs =>
        rw [List.map_cons, List.map_cons] at e
        injection e with e1 e2
        injection e2 with e2 e3
        exact ⟨y :: x :: xs, by rw [List.map_cons, List.map_cons, e1, e2, e3], .swap _ _ _⟩
  | trans p q i1 i2 =>
    intro xs e
    obtain ⟨ys, h1, h2⟩ := i2 xs e
    obtain ⟨zs, h3, h4⟩ := i1 ys h1
    exact ⟨zs, h3, h4.trans h2⟩
theorem sort_keys (K : List (List D)) : ∃ K' : List (List D), (K.map kyR).mergeSort leD3 = K'.map kyR ∧ K'.Perm K := perm_unmap (List.mergeSort_perm _ _) K rfl
theorem okKs_perm {K K' : List (List D)} (p : K'.Perm K) (h : okKs K) : okKs K' := ⟨fun κ hκ => h.1 κ (p.mem_iff.mp hκ), p.symm.pairwise h.2 fun h => Ne.symm h⟩
open Classical in
/-- weights of what is told group by group -/
theorem wt_groups {κ0 : List D} {k : Ky} {G : List D → List Mv} : ∀ {K : List (List D)}, okKs K → (∀ κ ∈ K, κ ≠ κ0 → wt (G κ) k = 0) → wt (K.map G).flatten k = if κ0 ∈ K then wt (G κ0) k else 0
  | [], _, _ => by simp [wt_nil]
  | x :: K, hK, hz => by
    obtain ⟨n1, n2⟩ := List.pairwise_cons.mp hK.2
    have ih := wt_groups (κ0 := κ0) (k := k) (G := G) (K := K) ⟨fun y hy => hK.1 y (List.mem_cons_of_mem _ hy), n2⟩ fun κ hκ => hz κ (List.mem_cons_of_mem _ hκ)
    rw [List.map_cons, List.flatten_cons, wt_app, ih]
    by_cases e : x = κ0
    · subst e
      have : x ∉ K := fun q => n1 x q rfl
      rw [if_neg this, if_pos List.mem_cons_self, Int.add_zero]
    · rw [hz x List.mem_cons_self e, Int.zero_add]
      by_cases q : κ0 ∈ K
      · rw [if_pos q, if_pos (List.mem_cons_of_mem _ q)]
      · rw [if_neg q, if_neg fun z => (List.mem_cons.mp z).elim (fun z => e z.symm) q]
end Lw
set_option maxHeartbeats 2000000
/-! words for reckoning: groups that a word finds -/
namespace Dm
open PySem Dn DnSo Lw
section
variable {ρ : Env} {Q : D → Env → Prop} {R : Fl → Env → Prop} {i p q v : Nat} {gi : Md (List D)} {gt : D → Env → Option Env} {gk : Md D} {gc g0 : Md Bool} {g2 gx : Md D}
theorem wo_TLst {n : Nat} {gs : List D → Env → Option Env} {ds : List D} {Q : Env → Prop} : Wo (gTLst n gs (.list ds) ρ) Q ↔ ds.length = n ∧ Wo (gs ds ρ) Q := by
  show Wo (if ds.length = n then gs ds ρ else none) Q ↔ _
  by_cases h : ds.length = n
  · rw [if_pos h]; simp [h]
  · rw [if_neg h, wo_none]; simp [h]
theorem empty_ownL : emptyOwnL (some (some (.own false (.list [])))) = true := rfl
theorem ws_grpL : Ws (sGrpL i gi gt p q v gk gc g0 g2 gx) ρ R ↔ Wm gi ρ fun ds ρ1 => emptyOwnL ρ1[i]? = true ∧ Wo (grpLD gt p q v gk gc g0 g2 gx ds [] (ρ1.set i none)) fun r => Wo (canSet r.2[i]?) fun _ => R .nx (r.2.set i (some (.val (.list (r.1.map gpD))))) := by
  unfold Ws Wm sGrpL
  rw [wo_bind]
  refine Iff.of_eq (congrArg _ (funext fun w => ?_))
  try dsimp only
  by_cases h : emptyOwnL w.2[i]? = true
  · rw [if_pos h]
    simp only [wo_bind, wo_some, setC_eq, h, true_and]
  · rw [if_neg h, wo_none]
    simp [h]
theorem grpL_forA {α : Type} (h : α → D) (E : List α → List Gp) (I : List α → Env → Prop) {Q : List Gp × Env → Prop} {xs : List α} (he : E [] = []) (h0 : I [] ρ)
    (st : ∀ (qs : List α) (x : α) (r : List α) (ρ : Env), xs = qs ++ x :: r → I qs ρ → Wo (gt (h x) ρ) fun ρ1 => Wo (turnL p q v gk gc g0 g2 gx (E qs) ρ1) fun w => w.1 = E (qs ++ [x]) ∧ I (qs ++ [x]) w.2)
    (fin : ∀ ρ', I xs ρ' → Q (E xs, ρ')) : Wo (grpLD gt p q v gk gc g0 g2 gx (xs.map h) [] ρ) Q := by
  have go : ∀ (ys qs : List α) (ρ : Env), xs = qs ++ ys → I qs ρ → Wo (grpLD gt p q v gk gc g0 g2 gx (ys.map h) (E qs) ρ) Q := by
    intro ys
    induction ys with
    | nil =>
      intro qs ρ e hI
      rw [List.append_nil] at e
      subst e
      exact wo_some.mpr (fin ρ hI)
    | cons x ys ih =>
      intro qs ρ e hI
      have s := st qs x ys ρ e hI
      show Wo ((gt (h x) ρ).bind fun ρ1 => (turnL p q v gk gc g0 g2 gx (E qs) ρ1).bind fun r => grpLD gt p q v gk gc g0 g2 gx (ys.map h) r.1 r.2) Q
      simp only [wo_bind]
      refine wo_mono s fun ρ1 s => wo_mono s fun w s => ?_
      rw [s.1]
      exact ih (qs ++ [x]) _ (by rw [e]; simp) s.2
  have := go xs [] ρ rfl h0
  rwa [he] at this
theorem wo_turnL {es : List Gp} {Q : List Gp × Env → Prop} (bs : List Bool) (ρe : Env)
    (s : Wm gk ρ fun k ρ2 => Wo (canSet ρ2[p]?) fun _ => selB v gc es (wipeE (ρ2.set p (some (.val k))) [v]) = some (bs, ρe) ∧ Wo (canSet (ρ2.set p (some (.val k)))[q]?) fun _ => Wm g0 ((ρ2.set p (some (.val k))).set q (some (.val (.list (selG es bs))))) fun b _ =>
      (noOwn (ρ2.set p (some (.val k))) = true ∧ es.length < 16777216 ∧ lenB es bs < 16777216 ∧ b = (selG es bs).isEmpty) ∧
      if (selG es bs).isEmpty = true then Wm g2 ((ρ2.set p (some (.val k))).set q none) fun k2 ρ7 => Wm gx ρ7 fun x ρ8 => Q (es ++ [(k2, [x])], ρ8)
      else Wm gx ((ρ2.set p (some (.val k))).set q none) fun x ρ8 => Q (putG es bs x, ρ8)) : Wo (turnL p q v gk gc g0 g2 gx es ρ) Q := by
  unfold Wm at s
  unfold turnL
  simp only [wo_bind, setC_eq, wo_some]
  refine wo_mono s fun k s => wo_mono s fun _ s => ?_
  obtain ⟨e1, s⟩ := s
  rw [e1, wo_some]
  refine wo_mono s fun _ s => wo_mono s fun b s => ?_
  obtain ⟨c, s⟩ := s
  rw [if_pos c, c.2.2.2]
  by_cases z : (selG es bs).isEmpty = true
  · rw [if_pos z] at s ⊢
    simp only [wo_bind]
    refine wo_mono s fun k2 s => wo_mono s fun x s => wo_some.mpr s
  · rw [if_neg z] at s ⊢
    simp only [wo_bind]
    exact wo_mono s fun x s => wo_some.mpr s
theorem selB_all (f : Gp → Bool) {es : List Gp} (h : ∀ e ∈ es, Wo (canSet ρ[v]?) fun _ => Wm gc (ρ.set v (some (.val (gpD e)))) fun b ρ2 => b = f e ∧ wipeE ρ2 [v] = ρ) : selB v gc es ρ = some (es.map f, ρ) := by
  induction es with
  | nil => rfl
  | cons e es ih =>
    obtain ⟨u, h1, ⟨b, ρ2⟩, h2, h3, h4⟩ := h e List.mem_cons_self
    show ((setC v (.val (gpD e)) ρ).bind fun ρ1 => (gc ρ1).bind fun r => (selB v gc es (wipeE r.2 [v])).bind fun q => some (r.1 :: q.1, q.2)) = _
    simp only [setC_eq, h1, Option.bind_some, h2]
    rw [show wipeE ρ2 [v] = ρ from h4, ih fun e he => h e (List.mem_cons_of_mem _ he)]
    subst h3
    rfl
end
/-! what the groups are -/
section
variable {α : Type} (f : α → List D) (h : α → D)
def grpLE (xs : List α) : List Gp := (keysOf f xs).map fun κ => (.tuple κ, (inG f κ xs).map h)
variable {f h}
theorem putG_map {g : List D → List D} {κ : List D} {d : D} (oκ : okR κ) : ∀ {K : List (List D)}, okKs K → putG (K.map fun x => (PyData.tuple x, g x)) (K.map fun x => eqR x κ) d = K.map fun x => (PyData.tuple x, if eqR x κ = true then g x ++ [d] else g x)
  | [], _ => rfl
  | x :: K, hK => by
    have hx := hK.1 x List.mem_cons_self
    have hK2 : okKs K := ⟨fun y hy => hK.1 y (List.mem_cons_of_mem _ hy), (List.pairwise_cons.mp hK.2).2⟩
    rw [List.map_cons, List.map_cons, List.map_cons]
    unfold putG
    by_cases z : eqR x κ = true
    · rw [if_pos z, if_pos z]
      have e := (eqR_iff hx oκ).mp z
      congr 1
      refine List.map_congr_left fun y hy => ?_
      have hne : ¬ eqR y κ = true := fun w => by
        have := (eqR_iff (hK2.1 y hy) oκ).mp w
        exact (List.pairwise_cons.mp hK.2).1 y hy (e.trans this.symm)
      rw [if_neg hne]
    · rw [if_neg z, if_neg z, putG_map oκ hK2]
theorem selG_map {κ : List D} {G : List D → Gp} : ∀ {K : List (List D)}, (selG (K.map G) (K.map fun x => eqR x κ)).isEmpty = !(K.any fun x => eqR x κ)
  | [] => rfl
  | x :: K => by
    rw [List.map_cons, List.map_cons, List.any_cons]
    unfold selG
    by_cases z : eqR x κ = true
    · rw [if_pos z, z]
      rfl
    · rw [if_neg z, selG_map]
      simp only [Bool.not_eq_true] at z
      rw [z, Bool.false_or]
theorem lenB_map {κ : List D} {G : List D → Gp} {n : Nat} : ∀ {K : List (List D)}, (∀ x ∈ K, (G x).2.length ≤ n) → lenB (K.map G) (K.map fun x => eqR x κ) ≤ n
  | [], _ => Nat.zero_le _
  | x :: K, hl => by
    rw [List.map_cons, List.map_cons]
    unfold lenB
    split
    · exact hl x List.mem_cons_self
    · exact lenB_map fun y hy => hl y (List.mem_cons_of_mem _ hy)
theorem inG_none {xs : List α} {κ : List D} (hx : ∀ y ∈ xs, okR (f y)) (oκ : okR κ) (hn : κ ∉ keysOf f xs) : inG f κ xs = [] := by
  unfold inG
  refine List.filter_eq_nil_iff.mpr fun x hm z => ?_
  have e := (eqR_iff (hx x hm) oκ).mp z
  exact hn (e ▸ (keysOf_facts hx).2.1 x hm)
theorem grpLE_old {xs : List α} {x : α} (hx : ∀ y ∈ xs ++ [x], okR (f y)) (ha : (keysOf f xs).any (fun κ => eqR κ (f x)) = true) : putG (grpLE f h xs) ((keysOf f xs).map fun κ => eqR κ (f x)) (h x) = grpLE f h (xs ++ [x]) := by
  have ox := hx x (by simp)
  have hxs : ∀ y ∈ xs, okR (f y) := fun y hy => hx y (List.mem_append_left _ hy)
  unfold grpLE
  rw [putG_map ox (keysOf_facts hxs).1, keysOf_snoc, addK, if_pos ha]
  refine List.map_congr_left fun κ _ => ?_
  rw [inG_snoc, eqR_comm (a := f x)]
  by_cases z : eqR κ (f x) = true
  · rw [if_pos z, if_pos z, List.map_append]
    rfl
  · rw [if_neg z, if_neg z]
theorem grpLE_new {xs : List α} {x : α} (hx : ∀ y ∈ xs ++ [x], okR (f y)) (ha : (keysOf f xs).any (fun κ => eqR κ (f x)) = false) : grpLE f h xs ++ [(PyData.tuple (f x), [h x])] = grpLE f h (xs ++ [x]) := by
  have ox := hx x (by simp)
  have hxs : ∀ y ∈ xs, okR (f y) := fun y hy => hx y (List.mem_append_left _ hy)
  unfold grpLE
  rw [keysOf_snoc, addK, if_neg (by rw [ha]; decide), List.map_append]
  congr 1
  · refine List.map_congr_left fun κ hκ => ?_
    rw [inG_snoc, if_neg fun z => ?_]
    have : (keysOf f xs).any (fun κ => eqR κ (f x)) = true := List.any_eq_true.mpr ⟨κ, hκ, by rw [eqR_comm]; exact z⟩
    rw [ha] at this
    cases this
  · have hn : f x ∉ keysOf f xs := fun z => by
      have : (keysOf f xs).any (fun κ => eqR κ (f x)) = true := List.any_eq_true.mpr ⟨f x, z, eqR_self ox⟩
      rw [ha] at this
      cases this
    rw [List.map_cons, List.map_nil, inG_snoc, if_pos (eqR_self ox), inG_none hxs ox hn]
    rfl
theorem grpLE_len {xs : List α} (hx : ∀ y ∈ xs, okR (f y)) : (grpLE f h xs).length ≤ xs.length := by
  unfold grpLE
  rw [List.length_map]
  exact (keysOf_facts hx).2.2
end
end Dm
set_option maxHeartbeats 2000000
/-! words for reckoning with generators -/
namespace Dm
open PySem Dn Gz
def Wg (g : Gd) (ρ : Env) (Q : List D → Fl → Env → Prop) : Prop := Wo (g ρ) fun p => Q p.1 p.2.1 p.2.2
def thenG (t : Gd) (Q : List D → Fl → Env → Prop) : List D → Fl → Env → Prop
  | ys, .nx, ρ => Wg t ρ fun zs f ρ1 => Q (ys ++ zs) f ρ1
  | ys, .ret d, ρ => Q ys (.ret d) ρ
  | ys, .rof d, ρ => Q ys (.rof d) ρ
  | ys, .brk, ρ => Q ys .brk ρ
  | ys, .cnt, ρ => Q ys .cnt ρ
section
variable {ρ : Env} {Q : List D → Fl → Env → Prop}
theorem wg_P {s : Sd} : Wg (gP s) ρ Q ↔ Ws s ρ fun f ρ1 => Q [] f ρ1 := by
  unfold Wg Ws gP
  simp only [wo_bind, wo_some]
theorem wg_end : Wg gEnd ρ Q ↔ Q [] .nx ρ := wo_some
theorem wg_then {s t : Gd} : Wg (gThen s t) ρ Q ↔ Wg s ρ (thenG t Q) := by
  unfold Wg gThen
  rw [wo_bind]
  refine Iff.of_eq (congrArg _ (funext fun p => ?_))
  obtain ⟨ys, f, ρ1⟩ := p
  cases f with
  | nx =>
    show Wo ((t ρ1).bind fun q => some (ys ++ q.1, q.2)) _ = Wo (t ρ1) _
    rw [wo_bind]
    simp only [wo_some]
  | ret d => exact propext wo_some
  | rof d => exact propext wo_some
  | brk => exact propext wo_some
  | cnt => exact propext wo_some
theorem theng_nx {t : Gd} {ys : List D} : thenG t Q ys .nx ρ ↔ Wg t ρ fun zs f ρ1 => Q (ys ++ zs) f ρ1 := Iff.rfl
theorem theng_brk {t : Gd} {ys : List D} : thenG t Q ys .brk ρ ↔ Q ys .brk ρ := Iff.rfl
theorem theng_cnt {t : Gd} {ys : List D} : thenG t Q ys .cnt ρ ↔ Q ys .cnt ρ := Iff.rfl
theorem wg_yield {e : Md D} : Wg (gYield e) ρ Q ↔ Wm e ρ fun d ρ1 => Gz.noOwn ρ1 = true ∧ Q [d] .nx ρ1 := by
  unfold Wg Wm gYield
  rw [wo_bind]
  refine Iff.of_eq (congrArg _ (funext fun p => ?_))
  rw [wo_ite, wo_some, wo_none]
  by_cases h : Gz.noOwn p.2 = true
  · rw [if_pos h]; simp [h]
  · rw [if_neg h]; simp [h]
/-- by what is handed out from here on: I ys ρ -/
theorem wg_while {Q' : Env → Prop} {c : Md Bool} {b : Gd} (I : Nat → List D → Env → Prop) (hs : ∀ m ys ρ, I m ys ρ → Wm c ρ fun t ρ1 => if t = true then Wg b ρ1 fun zs f ρ2 => (f = .nx ∨ f = .cnt) ∧ ∃ m' ys', m' < m ∧ ys = zs ++ ys' ∧ I m' ys' ρ2 else ys = [] ∧ Q' ρ1) : ∀ {k m : Nat} {ys : List D} {ρ : Env}, m < k → I m ys ρ → Wg (gWhile c b k) ρ fun zs f ρ2 => zs = ys ∧ f = .nx ∧ Q' ρ2
  | 0, _, _, _, h, _ => absurd h (Nat.not_lt_zero _)
  | k + 1, m, ys, ρ, hm, hI => by
    obtain ⟨⟨t, ρ1⟩, e1, q1⟩ := hs m ys ρ hI
    unfold Wg gWhile
    rw [wo_bind]
    refine ⟨(t, ρ1), e1, ?_⟩
    cases t with
    | false =>
      obtain ⟨rfl, q⟩ := q1
      exact ⟨_, rfl, rfl, rfl, q⟩
    | true =>
      obtain ⟨⟨zs, f, ρ2⟩, e2, hf, m', ys', hl, hy, hI'⟩ := q1
      have hl' : m' < k := by omega
      obtain ⟨⟨zs2, f2, ρ3⟩, e3, q3⟩ := wg_while I hs hl' hI'
      show Wo ((b ρ1).bind _) _
      rw [wo_bind]
      refine ⟨(zs, f, ρ2), e2, ?_⟩
      obtain ⟨rfl, rfl, q4⟩ := q3
      have e3' : gWhile c b k ρ2 = some (zs2, .nx, ρ3) := e3
      rcases hf with rfl | rfl
      · refine ⟨(zs ++ zs2, .nx, ρ3), ?_, hy.symm, rfl, q4⟩
        show (gWhile c b k ρ2).bind _ = _
        rw [e3']
        rfl
      · refine ⟨(zs ++ zs2, .nx, ρ3), ?_, hy.symm, rfl, q4⟩
        show (gWhile c b k ρ2).bind _ = _
        rw [e3']
        rfl
theorem wm_callG {f : List D → Option (List D)} {a : Md (List D)} {Q : List D → Env → Prop} : Wm (gCallG f a) ρ Q ↔ Wm a ρ fun x ρ1 => Wo (f x) fun r => Q r ρ1 := by
  unfold Wm gCallG
  simp only [wo_bind, wo_some]
theorem wo_runG {N : Nat} {g : Gd} {ds : List D} {Q : List D → Prop} : Wo (runG N g ds) Q ↔ Wg g (envV N ds) fun ys f _ => f = .nx ∧ Q ys := by
  unfold Wg runG
  rw [wo_bind]
  refine Iff.of_eq (congrArg _ (funext fun p => ?_))
  obtain ⟨ys, f, ρ1⟩ := p
  cases f with
  | nx => exact propext ⟨fun h => ⟨rfl, wo_some.mp h⟩, fun h => wo_some.mpr h.2⟩
  | ret d => exact propext ⟨fun h => (wo_none.mp h).elim, fun h => (by cases h.1)⟩
  | rof d => exact propext ⟨fun h => (wo_none.mp h).elim, fun h => (by cases h.1)⟩
  | brk => exact propext ⟨fun h => (wo_none.mp h).elim, fun h => (by cases h.1)⟩
  | cnt => exact propext ⟨fun h => (wo_none.mp h).elim, fun h => (by cases h.1)⟩
theorem wg_mono {g : Gd} {R R' : List D → Fl → Env → Prop} (h : Wg g ρ R) (i : ∀ ys f ρ', R ys f ρ' → R' ys f ρ') : Wg g ρ R' := wo_mono h fun p => i p.1 p.2.1 p.2.2
/-- while, by an invariant and a measure -/
theorem ws_whileI {R : Fl → Env → Prop} {c : Md Bool} {b : Sd} (I : Nat → Env → Prop) (hs : ∀ m ρ, I m ρ → Wm c ρ fun t ρ1 => if t = true then Ws b ρ1 (stepQ (fun ρ2 => ∃ m', m' < m ∧ I m' ρ2) R) else R .nx ρ1) : ∀ {k m : Nat} {ρ : Env}, m < k → I m ρ → Ws (whileD c b k) ρ R
  | 0, _, _, h, _ => absurd h (Nat.not_lt_zero _)
  | k + 1, m, ρ, hm, hI => by
    rw [while_succ]
    refine wo_mono (hs m ρ hI) fun p h1 => ?_
    obtain ⟨t, ρ1⟩ := p
    cases t with
    | false => exact h1
    | true =>
      show Ws b ρ1 (turnQ (whileD c b k) R)
      have h2 : Ws b ρ1 (stepQ (fun ρ2 => ∃ m', m' < m ∧ I m' ρ2) R) := h1
      refine ws_mono h2 fun f ρ2 h3 => ?_
      cases f with
      | nx =>
        obtain ⟨m', hl, h4⟩ := h3
        exact ws_whileI I hs (Nat.lt_of_lt_of_le hl (Nat.le_of_lt_succ hm)) h4
      | cnt =>
        obtain ⟨m', hl, h4⟩ := h3
        exact ws_whileI I hs (Nat.lt_of_lt_of_le hl (Nat.le_of_lt_succ hm)) h4
      | brk => exact h3
      | ret d => exact h3
      | rof d => exact h3
end
end Dm
set_option maxHeartbeats 4000000
/-! tables of flows and their changes, in plain Lean -/
namespace Lw
open PySem Dn Dm DnSo
def setT (t : Int) (m : Mv) : Mv := ((t, m.1.2), m.2)
/-- the weight of a row, whatever the time -/
def rwt (M : List Mv) (r : List D) : Int := (M.map fun m => if eqR m.1.2 r = true then m.2 else 0).sum
theorem rwt_nil (r : List D) : rwt [] r = 0 := rfl
theorem rwt_cons (m : Mv) (M : List Mv) (r : List D) : rwt (m :: M) r = (if eqR m.1.2 r = true then m.2 else 0) + rwt M r := rfl
theorem rwt_app (A B : List Mv) (r : List D) : rwt (A ++ B) r = rwt A r + rwt B r := by
  induction A with
  | nil => rw [List.nil_append, rwt_nil, Int.zero_add]
  | cons m A ih => rw [List.cons_append, rwt_cons, rwt_cons, ih, Int.add_assoc]
theorem rwt_set (t : Int) (M : List Mv) (r : List D) : rwt (M.map (setT t)) r = rwt M r := by
  induction M with
  | nil => rfl
  | cons m M ih => rw [List.map_cons, rwt_cons, rwt_cons, ih]; rfl
theorem eqK_rw (a b : Ky) : eqK a b = (decide (a.1 = b.1) && eqR a.2 b.2) := rfl
theorem wt_set (t : Int) (M : List Mv) (k : Ky) : wt (M.map (setT t)) k = if k.1 = t then rwt M k.2 else 0 := by
  induction M with
  | nil => simp [wt_nil, rwt_nil]
  | cons m M ih =>
    rw [List.map_cons, wt_cons, ih, eqK_rw]
    by_cases h : k.1 = t
    · rw [if_pos h, if_pos h, rwt_cons]
      simp [setT, h]
    · rw [if_neg h, if_neg h]
      have : ¬ t = k.1 := fun e => h e.symm
      simp [setT, this]
theorem wt_rwt (F : List Mv) (k : Ky) : wt F k = rwt (F.filter fun m => decide (m.1.1 = k.1)) k.2 := by
  induction F with
  | nil => rfl
  | cons m F ih =>
    rw [wt_cons, ih, eqK_rw]
    by_cases h : m.1.1 = k.1
    · rw [List.filter_cons_of_pos (by simpa using h), rwt_cons]
      simp [h]
    · rw [List.filter_cons_of_neg (by simpa using h)]
      simp [h]
theorem rwt_split {p q r : Mv → Bool} (h : ∀ m, r m = (p m || q m) ∧ ¬ (p m = true ∧ q m = true)) (F : List Mv) (x : List D) : rwt (F.filter r) x = rwt (F.filter p) x + rwt (F.filter q) x := by
  induction F with
  | nil => rfl
  | cons m F ih =>
    obtain ⟨h1, h2⟩ := h m
    cases hp : p m with
    | true =>
      cases hq : q m with
      | true => exact absurd ⟨hp, hq⟩ h2
      | false =>
        rw [hp, hq] at h1
        rw [List.filter_cons_of_pos (by rw [h1]; rfl), List.filter_cons_of_pos hp, List.filter_cons_of_neg (by rw [hq]; decide), rwt_cons, rwt_cons, ih, Int.add_assoc]
    | false =>
      cases hq : q m with
      | true =>
        rw [hp, hq] at h1
        rw [List.filter_cons_of_pos (by rw [h1]; rfl), List.filter_cons_of_neg (by rw [hp]; decide), List.filter_cons_of_pos hq, rwt_cons, rwt_cons, ih]
        omega
      | false =>
        rw [hp, hq] at h1
        rw [List.filter_cons_of_neg (by rw [h1]; decide), List.filter_cons_of_neg (by rw [hp]; decide), List.filter_cons_of_neg (by rw [hq]; decide), ih]
theorem okL_set {t : Int} {M : List Mv} (h : okL M) : okL (M.map (setT t)) := fun m hm => by
  obtain ⟨x, hx, rfl⟩ := List.mem_map.mp hm
  exact h x hx
def past (t : Int) (B : List Mv) : List Mv := (B.filter fun m => decide (m.1.1 ≤ t)).map (setT 0)
/-- the table at t; its moves bear the time 0 -/
def tabA (t : Int) (B : List Mv) : List Mv := flw (past t B)
def tbD (m : Mv) : D := .tuple [.tuple m.1.2, .int m.2]
theorem past_ok {t : Int} {B : List Mv} (h : okL B) : okL (past t B) := okL_set (flt_ok h)
theorem past_len (t : Int) (B : List Mv) : (past t B).length ≤ B.length := by
  unfold past
  rw [List.length_map]
  exact List.length_filter_le _ _
/-- all at time 0 -/
def at0 (T : List Mv) : Prop := ∀ m ∈ T, m.1.1 = 0
theorem set_at0 (M : List Mv) : at0 (M.map (setT 0)) := fun m hm => by
  obtain ⟨x, _, rfl⟩ := List.mem_map.mp hm
  rfl
theorem flw_at0 {M : List Mv} (h : okL M) (h0 : at0 M) : at0 (flw M) := fun m hm => by
  obtain ⟨h1, h2, h3⟩ := (flw_mem h).mp hm
  obtain ⟨x, hx, e⟩ := wt_has h h2 (by rw [h3]; exact h1)
  rw [← e]
  exact h0 x hx
theorem set_self {T : List Mv} (h : at0 T) : T.map (setT 0) = T := by
  induction T with
  | nil => rfl
  | cons m T ih =>
    have h1 := h m List.mem_cons_self
    rw [List.map_cons, ih fun x hx => h x (List.mem_cons_of_mem _ hx)]
    obtain ⟨⟨t, r⟩, w⟩ := m
    cases h1
    rfl
theorem rwt_flw {M : List Mv} (h : okL M) (h0 : at0 M) {r : List D} (hr : okR r) : rwt (flw M) r = rwt M r := by
  have e := flw_wt h (k := (0, r)) ⟨hr.1, hr.2⟩
  have e1 := wt_set 0 (flw M) (0, r)
  have e2 := wt_set 0 M (0, r)
  rw [set_self (flw_at0 h h0), if_pos rfl] at e1
  rw [set_self h0, if_pos rfl] at e2
  rw [← e1, ← e2, e]
theorem rwt_tabA {t : Int} {F : List Mv} (h : okL F) {r : List D} (hr : okR r) : rwt (tabA t F) r = rwt (F.filter fun m => decide (m.1.1 ≤ t)) r := by
  unfold tabA
  rw [rwt_flw (past_ok h) (set_at0 _) hr]
  unfold past
  exact rwt_set _ _ _
theorem tabA_ok {t : Int} {F : List Mv} (h : okL F) : okL (tabA t F) := flw_ok (past_ok h)
theorem tabA_at0 {t : Int} {F : List Mv} (h : okL F) : at0 (tabA t F) := flw_at0 (past_ok h) (set_at0 _)
theorem tabA_len {t : Int} {F : List Mv} (h : okL F) : (tabA t F).length ≤ F.length := Nat.le_trans (flw_len (past_ok h)) (past_len t F)

/-! ### the changes of tables -/
def chg : List Mv → List (Int × List Mv) → List Mv
  | _, [] => []
  | B, (t, T) :: L => T.map (setT t) ++ (neg (B.map (setT t)) ++ chg T L)
theorem neg_ok {M : List Mv} (h : okL M) : okL (neg M) := fun m hm => by
  obtain ⟨x, hx, rfl⟩ := List.mem_map.mp hm
  exact h x hx
theorem chg_ok : ∀ {L : List (Int × List Mv)} {B : List Mv}, okL B → (∀ p ∈ L, okL p.2) → okL (chg B L)
  | [], _, _, _ => okL_nil
  | (t, T) :: L, B, hB, hL => by
    have hT := hL (t, T) List.mem_cons_self
    exact okL_app.mpr ⟨okL_set hT, okL_app.mpr ⟨neg_ok (okL_set hB), chg_ok hT fun p hp => hL p (List.mem_cons_of_mem _ hp)⟩⟩
theorem chg_len {n : Nat} : ∀ {L : List (Int × List Mv)} {B : List Mv}, B.length ≤ n → (∀ p ∈ L, p.2.length ≤ n) → (chg B L).length ≤ 2 * n * L.length
  | [], _, _, _ => Nat.zero_le _
  | (t, T) :: L, B, hB, hL => by
    have hT : T.length ≤ n := hL (t, T) List.mem_cons_self
    have ih := chg_len (B := T) hT fun p hp => hL p (List.mem_cons_of_mem _ hp)
    have e1 : (chg B ((t, T) :: L)).length = T.length + (B.length + (chg T L).length) := by
      show (T.map (setT t) ++ (neg (B.map (setT t)) ++ chg T L)).length = _
      rw [List.length_append, List.length_append, List.length_map]
      unfold neg
      rw [List.length_map, List.length_map]
    rw [e1, List.length_cons, Nat.mul_succ]
    omega
theorem wt_flt {F : List Mv} {p : Mv → Bool} {c : Ky → Bool} (hp : ∀ m, p m = c m.1) (h : okL F) {k : Ky} (hk : okK k) : wt (F.filter p) k = if c k = true then wt F k else 0 := by
  induction F with
  | nil => simp [wt_nil]
  | cons x xs ih =>
    obtain ⟨o1, o2⟩ := okL_cons.mp h
    have ih := ih o2
    by_cases e : eqK x.1 k = true
    · have e2 := (eqK_iff o1 hk).mp e
      by_cases hc : c x.1 = true
      · rw [List.filter_cons_of_pos (by rw [hp]; exact hc), wt_cons, wt_cons, ih, ← e2, if_pos hc, if_pos hc]
      · rw [List.filter_cons_of_neg (by rw [hp]; exact hc), ih, ← e2, if_neg hc, if_neg hc]
    · by_cases hc : p x = true
      · rw [List.filter_cons_of_pos hc, wt_cons, wt_cons, ih, if_neg e, Int.zero_add, Int.zero_add]
      · rw [List.filter_cons_of_neg hc, ih, wt_cons, if_neg e, Int.zero_add]
/-- tables that change just as a function of times tells; the weights of the changes -/
theorem chg_wt {T : Int → List Mv} (hT : ∀ t, okL (T t)) : ∀ {ts : List Int} {B : List Mv}, (ts.Pairwise fun a b => a < b) → ∀ k : Ky, wt (chg B (ts.map fun t => (t, T t))) k = if k.1 ∈ ts then rwt (T k.1) k.2 - rwt (((ts.filter fun t => decide (t < k.1)).getLast?.map T).getD B) k.2 else 0
  | [], _, _, k => by simp [chg, wt_nil]
  | t :: ts, B, h, k => by
    obtain ⟨h1, h2⟩ := List.pairwise_cons.mp h
    have ih := chg_wt hT (B := T t) h2 k
    have e : wt (chg B ((t :: ts).map fun t => (t, T t))) k = (if k.1 = t then rwt (T t) k.2 - rwt B k.2 else 0) + wt (chg (T t) (ts.map fun t => (t, T t))) k := by
      show wt ((T t).map (setT t) ++ (neg (B.map (setT t)) ++ chg (T t) (ts.map fun t => (t, T t)))) k = _
      rw [wt_app, wt_app, wt_neg, wt_set, wt_set]
      by_cases hk : k.1 = t
      · rw [if_pos hk, if_pos hk, if_pos hk]; omega
      · rw [if_neg hk, if_neg hk, if_neg hk]; omega
    rw [e, ih]
    by_cases hk : k.1 = t
    · have nt : ¬ k.1 ∈ ts := fun z => by have := h1 _ z; omega
      have ef : (t :: ts).filter (fun s => decide (s < k.1)) = [] := by
        rw [List.filter_eq_nil_iff]
        intro s hs
        rcases List.mem_cons.mp hs with rfl | hs
        · simp; omega
        · have := h1 s hs; simp; omega
      rw [if_pos hk, if_neg nt, if_pos (by rw [hk]; exact List.mem_cons_self), ef, hk]
      simp
    · rw [if_neg hk, Int.zero_add]
      by_cases hm : k.1 ∈ ts
      · have hlt := h1 _ hm
        rw [if_pos hm, if_pos (List.mem_cons_of_mem _ hm), List.filter_cons_of_pos (by simpa using hlt)]
        cases q : ts.filter fun s => decide (s < k.1) with
        | nil => simp
        | cons y ys =>
          rw [List.getLast?_cons_cons]
          cases hv : (y :: ys).getLast? with
          | none => exact absurd (List.getLast?_eq_none_iff.mp hv) (by simp)
          | some v => rfl
      · have nm : ¬ k.1 ∈ t :: ts := fun z => by
          rcases List.mem_cons.mp z with z | z
          · exact hk z
          · exact hm z
        rw [if_neg hm, if_neg nm]
/-- the times of a flow -/
def addT (ts : List Int) (t : Int) : List Int := if t ∈ ts then ts else ts ++ [t]
def tms (F : List Mv) : List Int := F.foldl (fun ts m => addT ts m.1.1) []
theorem tms_snoc (F : List Mv) (m : Mv) : tms (F ++ [m]) = addT (tms F) m.1.1 := by
  unfold tms
  rw [List.foldl_append]
  rfl
theorem addT_mem {ts : List Int} {t s : Int} : s ∈ addT ts t ↔ s ∈ ts ∨ s = t := by
  unfold addT
  split
  · rename_i h
    exact ⟨.inl, fun q => q.elim id fun e => e ▸ h⟩
  · rw [List.mem_append, List.mem_singleton]
theorem tms_fold : ∀ (F : List Mv) (ts : List Int), (∀ s, s ∈ F.foldl (fun ts m => addT ts m.1.1) ts ↔ s ∈ ts ∨ ∃ m ∈ F, m.1.1 = s) ∧ ∃ X, F.foldl (fun ts m => addT ts m.1.1) ts = ts ++ X
  | [], ts => ⟨fun s => by simp, [], by simp⟩
  | m :: F, ts => by
    obtain ⟨h1, X, h2⟩ := tms_fold F (addT ts m.1.1)
    refine ⟨fun s => ?_, ?_⟩
    · rw [List.foldl_cons, h1, addT_mem]
      constructor
      · rintro ((h | h) | ⟨x, hx, h⟩)
        · exact .inl h
        · exact .inr ⟨m, List.mem_cons_self, h.symm⟩
        · exact .inr ⟨x, List.mem_cons_of_mem _ hx, h⟩
      · rintro (h | ⟨x, hx, h⟩)
        · exact .inl (.inl h)
        · rcases List.mem_cons.mp hx with rfl | hx
          · exact .inl (.inr h.symm)
          · exact .inr ⟨x, hx, h⟩
    · rw [List.foldl_cons, h2]
      unfold addT
      split
      · exact ⟨X, rfl⟩
      · exact ⟨m.1.1 :: X, by simp⟩
theorem tms_mem {F : List Mv} {s : Int} : s ∈ tms F ↔ ∃ m ∈ F, m.1.1 = s := by
  unfold tms
  rw [(tms_fold F []).1]
  simp
theorem tms_pre (A B : List Mv) : ∃ X, tms (A ++ B) = tms A ++ X := by
  unfold tms
  rw [List.foldl_append]
  exact (tms_fold B _).2
theorem tms_len (F : List Mv) : (tms F).length ≤ F.length := by
  have go : ∀ (F : List Mv) (ts : List Int), (F.foldl (fun ts m => addT ts m.1.1) ts).length ≤ ts.length + F.length := by
    intro F
    induction F with
    | nil => intro ts; simp
    | cons m F ih =>
      intro ts
      rw [List.foldl_cons]
      refine Nat.le_trans (ih _) ?_
      unfold addT
      split <;> simp <;> omega
  have := go F []
  simpa [tms] using this
theorem asc_times {F : List Mv} (h : asc F) : F.Pairwise fun x y => x.1.1 ≤ y.1.1 := h.imp fun {a b} h => by
  unfold kLt at h
  split at h
  · rename_i e
    omega
  · have := of_decide_eq_true h
    omega
theorem tms_asc {F : List Mv} (h : F.Pairwise fun x y => x.1.1 ≤ y.1.1) : (tms F).Pairwise fun a b => a < b := by
  have go : ∀ (F : List Mv) (ts : List Int), (F.Pairwise fun x y => x.1.1 ≤ y.1.1) → (∀ s ∈ ts, ∀ m ∈ F, s ≤ m.1.1) → (ts.Pairwise fun a b => a < b) → (F.foldl (fun ts m => addT ts m.1.1) ts).Pairwise fun a b => a < b := by
    intro F
    induction F with
    | nil => intro ts _ _ h; exact h
    | cons m F ih =>
      intro ts hF hs ht
      obtain ⟨h1, h2⟩ := List.pairwise_cons.mp hF
      rw [List.foldl_cons]
      refine ih _ h2 (fun s hs' x hx => ?_) ?_
      · rcases addT_mem.mp hs' with z | z
        · exact hs s z x (List.mem_cons_of_mem _ hx)
        · rw [z]; exact h1 x hx
      · unfold addT
        split
        · exact ht
        · rename_i hn
          refine List.pairwise_append.mpr ⟨ht, List.pairwise_singleton _ _, fun a ha b hb => ?_⟩
          rw [List.mem_singleton.mp hb]
          have := hs a ha m List.mem_cons_self
          have : a ≠ m.1.1 := fun z => hn (z ▸ ha)
          omega
  exact go F [] h (by simp) .nil
/-- one more group of moves at one time -/
theorem tms_group {P G : List Mv} {t : Int} (hG : ∀ m ∈ G, m.1.1 = t) (hne : G ≠ []) (hP : ∀ m ∈ P, m.1.1 ≠ t) : tms (P ++ G) = tms P ++ [t] := by
  have nt : t ∉ tms P := fun z => by
    obtain ⟨m, hm, e⟩ := tms_mem.mp z
    exact hP m hm e
  have go : ∀ (G : List Mv) (ts : List Int), (∀ m ∈ G, m.1.1 = t) → t ∈ ts → G.foldl (fun ts m => addT ts m.1.1) ts = ts := by
    intro G
    induction G with
    | nil => intro ts _ _; rfl
    | cons m G ih =>
      intro ts h ht
      have e : addT ts m.1.1 = ts := by
        unfold addT
        rw [h m List.mem_cons_self, if_pos ht]
      rw [List.foldl_cons, e]
      exact ih ts (fun x hx => h x (List.mem_cons_of_mem _ hx)) ht
  cases G with
  | nil => exact absurd rfl hne
  | cons m G =>
    have e : addT (tms P) m.1.1 = tms P ++ [t] := by
      unfold addT
      rw [hG m List.mem_cons_self, if_neg nt]
    have : tms (P ++ m :: G) = (m :: G).foldl (fun ts m => addT ts m.1.1) (tms P) := by
      unfold tms
      rw [List.foldl_append]
    rw [this, List.foldl_cons, e]
    exact go G _ (fun x hx => hG x (List.mem_cons_of_mem _ hx)) (by simp)

/-- the tables of a flow at ascending times that have all its times: their changes are the flow -/
theorem chg_flow {F : List Mv} {ts : List Int} (hF : okL F) (ha : asc F) (hz : ∀ m ∈ F, m.2 ≠ 0) (hts : ts.Pairwise fun a b => a < b) (hm : ∀ m ∈ F, m.1.1 ∈ ts) : flw (chg [] (ts.map fun t => (t, tabA t F))) = F := by
  have ok : okL (chg [] (ts.map fun t => (t, tabA t F))) := chg_ok okL_nil fun p hp => by
    obtain ⟨t, _, rfl⟩ := List.mem_map.mp hp
    exact tabA_ok hF
  refine (flw_is hF ok ha hz fun k hk => ?_).symm
  rw [chg_wt (fun t => tabA_ok hF) hts k, wt_rwt]
  by_cases h : k.1 ∈ ts
  · rw [if_pos h, rwt_tabA hF hk]
    -- the table before
    have hb : rwt (((ts.filter fun t => decide (t < k.1)).getLast?.map fun t => tabA t F).getD []) k.2 = rwt (F.filter fun m => decide (m.1.1 < k.1)) k.2 := by
      cases q : (ts.filter fun t => decide (t < k.1)).getLast? with
      | none =>
        have e := List.getLast?_eq_none_iff.mp q
        have e2 : F.filter (fun m => decide (m.1.1 < k.1)) = [] := by
          rw [List.filter_eq_nil_iff]
          intro m hm' hc
          have := List.filter_eq_nil_iff.mp e m.1.1 (hm m hm')
          exact this hc
        rw [e2]
        rfl
      | some u =>
        have hu := List.mem_of_getLast? q
        obtain ⟨hu1, hu2⟩ := List.mem_filter.mp hu
        have hu3 : u < k.1 := of_decide_eq_true hu2
        have top : ∀ s ∈ ts.filter (fun t => decide (t < k.1)), s ≤ u := by
          have pw : (ts.filter fun t => decide (t < k.1)).Pairwise fun a b => a < b := hts.sublist List.filter_sublist
          obtain ⟨l, hl⟩ := List.getLast?_eq_some_iff.mp q
          rw [hl] at pw ⊢
          intro s hs
          rcases List.mem_append.mp hs with z | z
          · exact Int.le_of_lt ((List.pairwise_append.mp pw).2.2 s z u (by simp))
          · rw [List.mem_singleton.mp z]; exact Int.le_refl _
        show rwt (tabA u F) k.2 = _
        rw [rwt_tabA hF hk]
        congr 1
        refine List.filter_congr fun m hm' => ?_
        by_cases c : m.1.1 < k.1
        · have := top m.1.1 (List.mem_filter.mpr ⟨hm m hm', decide_eq_true c⟩)
          rw [decide_eq_true c, decide_eq_true this]
        · rw [decide_eq_false c, decide_eq_false (by omega)]
    rw [hb]
    have := rwt_split (p := fun m : Mv => decide (m.1.1 < k.1)) (q := fun m : Mv => decide (m.1.1 = k.1)) (r := fun m : Mv => decide (m.1.1 ≤ k.1)) (fun m => ⟨by
      by_cases c1 : m.1.1 < k.1
      · rw [decide_eq_true c1, decide_eq_true (by omega)]; rfl
      · by_cases c2 : m.1.1 = k.1
        · rw [decide_eq_false c1, decide_eq_true c2, decide_eq_true (by omega)]; rfl
        · rw [decide_eq_false c1, decide_eq_false c2, decide_eq_false (by omega)]; rfl, fun ⟨a, b⟩ => by
      have := of_decide_eq_true a
      have := of_decide_eq_true b
      omega⟩) F k.2
    omega
  · rw [if_neg h]
    have e2 : F.filter (fun m => decide (m.1.1 = k.1)) = [] := by
      rw [List.filter_eq_nil_iff]
      intro m hm' hc
      exact h ((of_decide_eq_true hc) ▸ hm m hm')
    rw [e2]
    rfl
end Lw
set_option maxHeartbeats 4000000
/-! changes at times that may come again; lawful moves; plain Lean -/
namespace Lw
open PySem Dn Dm DnSo
theorem chg_wt2 {T : Int → List Mv} : ∀ {ts : List Int} {B : List Mv}, (ts.Pairwise fun a b => a ≤ b) → ∀ k : Ky, wt (chg B (ts.map fun t => (t, T t))) k = if k.1 ∈ ts then rwt (T k.1) k.2 - rwt (((ts.filter fun t => decide (t < k.1)).getLast?.map T).getD B) k.2 else 0
  | [], _, _, k => by simp [chg, wt_nil]
  | t :: ts, B, h, k => by
    obtain ⟨h1, h2⟩ := List.pairwise_cons.mp h
    have ih := chg_wt2 (T := T) (B := T t) h2 k
    have e : wt (chg B ((t :: ts).map fun t => (t, T t))) k = (if k.1 = t then rwt (T t) k.2 - rwt B k.2 else 0) + wt (chg (T t) (ts.map fun t => (t, T t))) k := by
      show wt ((T t).map (setT t) ++ (neg (B.map (setT t)) ++ chg (T t) (ts.map fun t => (t, T t)))) k = _
      rw [wt_app, wt_app, wt_neg, wt_set, wt_set]
      by_cases hk : k.1 = t
      · rw [if_pos hk, if_pos hk, if_pos hk]; omega
      · rw [if_neg hk, if_neg hk, if_neg hk]; omega
    rw [e, ih]
    by_cases hk : k.1 = t
    · have ef0 : ts.filter (fun s => decide (s < k.1)) = [] := by
        rw [List.filter_eq_nil_iff]
        intro s hs
        have := h1 s hs
        simp
        omega
      have ef : (t :: ts).filter (fun s => decide (s < k.1)) = [] := by
        rw [List.filter_cons_of_neg (by simp; omega), ef0]
      have hmm : k.1 ∈ t :: ts := by rw [hk]; exact List.mem_cons_self
      rw [if_pos hk, if_pos hmm, ef, ef0, hk]
      by_cases hm : t ∈ ts
      · rw [if_pos hm]
        simp
      · rw [if_neg hm]
        simp
    · rw [if_neg hk, Int.zero_add]
      by_cases hm : k.1 ∈ ts
      · have hlt : t < k.1 := by have := h1 _ hm; omega
        have hmm : k.1 ∈ t :: ts := List.mem_cons_of_mem _ hm
        rw [if_pos hm, if_pos hmm, List.filter_cons_of_pos (by simpa using hlt)]
        cases q : ts.filter fun s => decide (s < k.1) with
        | nil => simp
        | cons y ys =>
          rw [List.getLast?_cons_cons]
          cases hv : (y :: ys).getLast? with
          | none => exact absurd (List.getLast?_eq_none_iff.mp hv) (by simp)
          | some v => rfl
      · have nm : ¬ k.1 ∈ t :: ts := fun z => by
          rcases List.mem_cons.mp z with z | z
          · exact hk z
          · exact hm z
        rw [if_neg hm, if_neg nm]
theorem last_top {l : List Int} (h : l.Pairwise fun a b => a ≤ b) {u : Int} (e : l.getLast? = some u) : u ∈ l ∧ ∀ s ∈ l, s ≤ u := by
  refine ⟨List.mem_of_getLast? e, fun s hs => ?_⟩
  obtain ⟨r, hr⟩ := List.getLast?_eq_some_iff.mp e
  rw [hr] at h hs
  rcases List.mem_append.mp hs with z | z
  · exact (List.pairwise_append.mp h).2.2 s z u (by simp)
  · rw [List.mem_singleton.mp z]; exact Int.le_refl _
theorem last_eq {a b : List Int} (ha : a.Pairwise fun a b => a ≤ b) (hb : b.Pairwise fun a b => a ≤ b) (h : ∀ s, s ∈ a ↔ s ∈ b) : a.getLast? = b.getLast? := by
  cases e1 : a.getLast? with
  | none =>
    have := List.getLast?_eq_none_iff.mp e1
    subst this
    have : b = [] := List.eq_nil_iff_forall_not_mem.mpr fun s hs => by have := (h s).mpr hs; simp at this
    rw [this]
    rfl
  | some u =>
    obtain ⟨u1, u2⟩ := last_top ha e1
    cases e2 : b.getLast? with
    | none =>
      have := List.getLast?_eq_none_iff.mp e2
      subst this
      have := (h u).mp u1
      simp at this
    | some v =>
      obtain ⟨v1, v2⟩ := last_top hb e2
      have h1 := u2 v ((h v).mpr v1)
      have h2 := v2 u ((h u).mp u1)
      congr 1
      omega
theorem chg_same {T : Int → List Mv} (hT : ∀ t, okL (T t)) {a b : List Int} (ha : a.Pairwise fun a b => a ≤ b) (hb : b.Pairwise fun a b => a ≤ b) (h : ∀ s, s ∈ a ↔ s ∈ b) : flw (chg [] (a.map fun t => (t, T t))) = flw (chg [] (b.map fun t => (t, T t))) := by
  have ok : ∀ ts : List Int, okL (chg [] (ts.map fun t => (t, T t))) := fun ts => chg_ok okL_nil fun p hp => by
    obtain ⟨t, _, rfl⟩ := List.mem_map.mp hp
    exact hT t
  refine flw_ext (ok a) (ok b) fun k hk => ?_
  rw [chg_wt2 ha, chg_wt2 hb]
  have e := last_eq (a := a.filter fun t => decide (t < k.1)) (b := b.filter fun t => decide (t < k.1)) (ha.sublist List.filter_sublist) (hb.sublist List.filter_sublist) fun s => by
    rw [List.mem_filter, List.mem_filter, h]
  rw [e]
  by_cases c : k.1 ∈ a
  · rw [if_pos c, if_pos ((h _).mp c)]
  · rw [if_neg c, if_neg fun z => c ((h _).mpr z)]

/-! ### tables of moves and of their flow -/
theorem rwt_addF {p : Int → Bool} {m : Mv} (hm : okK m.1) (r : List D) : ∀ {F : List Mv}, okL F → rwt ((addF F m).filter fun x => p x.1.1) r = rwt (F.filter fun x => p x.1.1) r + rwt ([m].filter fun x => p x.1.1) r
  | [], _ => by
    show rwt ([m].filter fun x => p x.1.1) r = _
    rw [List.filter_nil, rwt_nil, Int.zero_add]
  | x :: F, h => by
    obtain ⟨o1, o2⟩ := okL_cons.mp h
    unfold addF
    by_cases e : eqK x.1 m.1 = true
    · have e2 := (eqK_iff o1 hm).mp e
      rw [if_pos e]
      by_cases hp : p x.1.1 = true
      · have hp2 : p m.1.1 = true := by rw [← e2]; exact hp
        rw [List.filter_cons_of_pos (by exact hp), List.filter_cons_of_pos (by exact hp), List.filter_cons_of_pos (by exact hp2), rwt_cons, rwt_cons, rwt_cons, List.filter_nil, rwt_nil, ← e2]
        split <;> omega
      · have hp2 : ¬ p m.1.1 = true := by rw [← e2]; exact hp
        rw [List.filter_cons_of_neg (by exact hp), List.filter_cons_of_neg (by exact hp), List.filter_cons_of_neg (by exact hp2), List.filter_nil, rwt_nil, Int.add_zero]
    · rw [if_neg e]
      have ih := rwt_addF (p := p) hm r o2
      by_cases hp : p x.1.1 = true
      · rw [List.filter_cons_of_pos (by exact hp), List.filter_cons_of_pos (by exact hp), rwt_cons, rwt_cons, ih, Int.add_assoc]
      · rw [List.filter_cons_of_neg (by exact hp), List.filter_cons_of_neg (by exact hp), ih]
theorem rwt_fold {p : Int → Bool} (r : List D) : ∀ {ms F : List Mv}, okL F → okL ms → rwt ((ms.foldl addF F).filter fun x => p x.1.1) r = rwt (F.filter fun x => p x.1.1) r + rwt (ms.filter fun x => p x.1.1) r
  | [], F, _, _ => by rw [List.foldl_nil, List.filter_nil, rwt_nil, Int.add_zero]
  | m :: ms, F, hF, hm => by
    obtain ⟨o1, o2⟩ := okL_cons.mp hm
    rw [List.foldl_cons, rwt_fold r (addF_ok hF o1) o2, rwt_addF o1 r hF]
    have : (m :: ms).filter (fun x => p x.1.1) = [m].filter (fun x => p x.1.1) ++ ms.filter (fun x => p x.1.1) := by
      rw [← List.filter_append]
      rfl
    rw [this, rwt_app, Int.add_assoc]
theorem rwt_perm {a b : List Mv} (h : a.Perm b) (r : List D) : rwt a r = rwt b r := by
  induction h with
  | nil => rfl
  | cons x _ ih => rw [rwt_cons, rwt_cons, ih]
  | swap x y l => rw [rwt_cons, rwt_cons, rwt_cons, rwt_cons]; omega
  | trans _ _ h1 h2 => rw [h1, h2]
theorem rwt_nz (F : List Mv) (r : List D) : rwt (F.filter fun m => decide (m.2 ≠ 0)) r = rwt F r := by
  induction F with
  | nil => rfl
  | cons m F ih =>
    by_cases h : m.2 ≠ 0
    · rw [List.filter_cons_of_pos (by simpa using h), rwt_cons, rwt_cons, ih]
    · rw [List.filter_cons_of_neg (by simpa using h), rwt_cons, ih]
      have : m.2 = 0 := by simpa using h
      rw [this]
      split <;> omega
theorem rwt_flwF {p : Int → Bool} {ms : List Mv} (h : okL ms) (r : List D) : rwt ((flw ms).filter fun x => p x.1.1) r = rwt (ms.filter fun x => p x.1.1) r := by
  rw [rwt_perm ((flw_perm h).filter _) r, List.filter_filter]
  have e : (fnd ms).filter (fun a => p a.1.1 && decide (a.2 ≠ 0)) = ((fnd ms).filter fun a => p a.1.1).filter fun a => decide (a.2 ≠ 0) := by
    rw [List.filter_filter]
    refine List.filter_congr fun a _ => ?_
    exact Bool.and_comm _ _
  rw [e, rwt_nz]
  have := rwt_fold (p := p) r okL_nil h
  rw [List.filter_nil, rwt_nil, Int.zero_add] at this
  exact this
/-- moves that make no table with a weight below 0, their times ascending -/
structure Lawful (ms : List Mv) : Prop where
  tm : ms.Pairwise fun x y => x.1.1 ≤ y.1.1
  nn : ∀ n r, okR r → 0 ≤ rwt (ms.take n) r
theorem filter_take {ms : List Mv} (h : ms.Pairwise fun x y => x.1.1 ≤ y.1.1) (t : Int) : ∃ n, ms.filter (fun m => decide (m.1.1 ≤ t)) = ms.take n := by
  induction ms with
  | nil => exact ⟨0, rfl⟩
  | cons m ms ih =>
    obtain ⟨h1, h2⟩ := List.pairwise_cons.mp h
    obtain ⟨n, hn⟩ := ih h2
    by_cases c : m.1.1 ≤ t
    · exact ⟨n + 1, by rw [List.filter_cons_of_pos (by simpa using c), hn, List.take_succ_cons]⟩
    · refine ⟨0, ?_⟩
      rw [List.filter_cons_of_neg (by simpa using c), List.take_zero, List.filter_eq_nil_iff]
      intro x hx
      have := h1 x hx
      simp
      omega
theorem rwt_tab {ms : List Mv} (h : okL ms) {t : Int} {r : List D} (hr : okR r) : rwt (tabA t (flw ms)) r = rwt (ms.filter fun m => decide (m.1.1 ≤ t)) r := by
  rw [rwt_tabA (flw_ok h) hr]
  exact rwt_flwF (p := fun s => decide (s ≤ t)) h r
theorem tab_mem {F : List Mv} {t : Int} (h : okL F) {m : Mv} (hm : m ∈ tabA t F) : m.1.1 = 0 ∧ m.2 ≠ 0 ∧ m.2 = rwt (tabA t F) m.1.2 := by
  have h0 := tabA_at0 (t := t) h m hm
  have ok := tabA_ok (t := t) h
  obtain ⟨h1, h2, h3⟩ := (flw_mem (past_ok h)).mp hm
  refine ⟨h0, h1, ?_⟩
  have h4 := wt_mem ok (asc_nd ok (flw_asc (past_ok h))) hm
  have h5 := wt_set 0 (tabA t F) m.1
  rw [set_self (tabA_at0 h), if_pos h0, h4] at h5
  exact h5
theorem rwt_bound {b : Int} {M : List Mv} {r : List D} (h : ∀ m ∈ M, -b ≤ m.2 ∧ m.2 ≤ b) (hb : 0 ≤ b) : -(b * M.length) ≤ rwt M r ∧ rwt M r ≤ b * M.length := by
  induction M with
  | nil => simp [rwt_nil]
  | cons m M ih =>
    obtain ⟨i1, i2⟩ := ih fun x hx => h x (List.mem_cons_of_mem _ hx)
    obtain ⟨j1, j2⟩ := h m List.mem_cons_self
    have e : b * ((m :: M).length : Int) = b * M.length + b := by rw [List.length_cons]; push_cast; rw [Int.mul_add, Int.mul_one]
    rw [rwt_cons, e]
    split <;> omega
/-- the tables of a lawful flow -/
theorem tab_lawful {ms : List Mv} (h : okL ms) (lw : Lawful ms) (hb : ∀ m ∈ ms, -1 ≤ m.2 ∧ m.2 ≤ 1) {t : Int} {m : Mv} (hm : m ∈ tabA t (flw ms)) : 1 ≤ m.2 ∧ m.2 ≤ ms.length := by
  obtain ⟨h0, h1, h2⟩ := tab_mem (flw_ok h) hm
  have hr : okR m.1.2 := by
    have := tabA_ok (flw_ok h) m hm
    exact ⟨this.1, this.2⟩
  rw [rwt_tab h hr] at h2
  obtain ⟨n, hn⟩ := filter_take lw.tm t
  have h3 := lw.nn n m.1.2 hr
  rw [← hn, ← h2] at h3
  have h4 := (rwt_bound (b := 1) (M := ms.filter fun m => decide (m.1.1 ≤ t)) (r := m.1.2) (fun x hx => hb x (List.mem_filter.mp hx).1) (by decide)).2
  have h5 : (ms.filter fun m => decide (m.1.1 ≤ t)).length ≤ ms.length := List.length_filter_le _ _
  omega
/-- the rows of a table are rows of moves -/
theorem tab_row {ms : List Mv} (h : okL ms) {t : Int} {m : Mv} (hm : m ∈ tabA t (flw ms)) : ∃ x ∈ ms, x.1.2 = m.1.2 := by
  obtain ⟨h1, h2, h3⟩ := (flw_mem (past_ok (flw_ok h))).mp hm
  obtain ⟨x, hx, e⟩ := wt_has (past_ok (flw_ok h)) h2 (by rw [h3]; exact h1)
  obtain ⟨y, hy, rfl⟩ := List.mem_map.mp hx
  have hy := (List.mem_filter.mp hy).1
  obtain ⟨g1, g2, g3⟩ := (flw_mem h).mp hy
  obtain ⟨z, hz, ez⟩ := wt_has h g2 (by rw [g3]; exact g1)
  refine ⟨z, hz, ?_⟩
  rw [ez, ← e]
  rfl
end Lw
set_option maxHeartbeats 4000000
/-! owners of 16 places, dealt evenly with the fewest moves: plain Lean -/
namespace Lw
def cntI (t : Int) (l : List Int) : Int := ((l.filter fun x => decide (x = t)).length : Nat)
def sumR (p : Nat) (f : Nat → Int) : Int := ((List.range p).map f).sum
def inRI (R : List Int) (s : Nat) : Int := if (s : Int) ∈ R then 1 else 0
def lowP (p : Nat) : Int := 16 / (p : Int)
def roomR (p : Nat) (R : List Int) (h : Nat → Int) (s : Nat) : Int := lowP p + inRI R s - h s
def keptR (p : Nat) (R : List Int) (h l : Nat → Int) : Int := sumR p fun s => min (roomR p R h s) (l s)
def valR (p : Nat) (R : List Int) (h l : Nat → Int) (n mv : Int) : Int := mv + 16 - n - keptR p R h l
def fitR (p : Nat) (R : List Int) (h : Nat → Int) : Prop := ∀ s, s < p → 0 ≤ roomR p R h s
def riches : Nat → List (List Int)
  | 3 => [[0], [1], [2]]
  | _ => [[]]
def isG (p : Nat) (h l : Nat → Int) (n mv : Int) (b : Option Int) : Prop :=
  (∀ R ∈ riches p, fitR p R h → ∃ v, b = some v ∧ v ≤ valR p R h l n mv) ∧ (∀ v, b = some v → ∃ R ∈ riches p, fitR p R h ∧ v = valR p R h l n mv)
theorem isG_uniq {p : Nat} {h l : Nat → Int} {n mv : Int} {b b' : Option Int} (g : isG p h l n mv b) (g' : isG p h l n mv b') : b = b' := by
  cases b with
  | none =>
    cases b' with
    | none => rfl
    | some v' =>
      obtain ⟨R, h1, h2, _⟩ := g'.2 v' rfl
      obtain ⟨v, h3, _⟩ := g.1 R h1 h2
      cases h3
  | some v =>
    obtain ⟨R, h1, h2, h3⟩ := g.2 v rfl
    obtain ⟨v', e, h4⟩ := g'.1 R h1 h2
    subst e
    obtain ⟨R', h5, h6, h7⟩ := g'.2 v' rfl
    obtain ⟨v2, e2, h8⟩ := g.1 R' h5 h6
    cases e2
    congr 1
    omega
def four (p : Nat) : Prop := p = 1 ∨ p = 2 ∨ p = 3 ∨ p = 4
/-- what is known of a state -/
structure Sts (p : Nat) (h l : Nat → Int) (n : Int) : Prop where
  hn : ∀ s, 0 ≤ h s
  ln : ∀ s, 0 ≤ l s
  hs : sumR p h = n
  ls : sumR p l ≤ 16 - n
theorem sum3 (f : Nat → Int) : sumR 3 f = f 0 + f 1 + f 2 := by simp [sumR, List.range_succ]; omega
theorem fit3 {P : Nat → Prop} : (∀ s, s < 3 → P s) ↔ P 0 ∧ P 1 ∧ P 2 := ⟨fun h => ⟨h 0 (by decide), h 1 (by decide), h 2 (by decide)⟩, fun h s hs => by
  have : s = 0 ∨ s = 1 ∨ s = 2 := by omega
  rcases this with rfl | rfl | rfl
  · exact h.1
  · exact h.2.1
  · exact h.2.2⟩
theorem sumL_le : ∀ {L : List Nat} {f g : Nat → Int}, (∀ s ∈ L, f s ≤ g s) → (L.map f).sum ≤ (L.map g).sum
  | [], _, _, _ => Int.le_refl _
  | x :: L, f, g, h => by
    have h1 := h x List.mem_cons_self
    have h2 := sumL_le (L := L) fun s hs => h s (List.mem_cons_of_mem _ hs)
    rw [List.map_cons, List.map_cons, List.sum_cons, List.sum_cons]
    omega
theorem sumR_le {p : Nat} {f g : Nat → Int} (h : ∀ s, s < p → f s ≤ g s) : sumR p f ≤ sumR p g := sumL_le fun s hs => h s (List.mem_range.mp hs)
theorem sumR_eq {p : Nat} {f g : Nat → Int} (h : ∀ s, s < p → f s = g s) : sumR p f = sumR p g := by
  have h1 := sumR_le (f := f) (g := g) fun s hs => by rw [h s hs]; exact Int.le_refl _
  have h2 := sumR_le (f := g) (g := f) fun s hs => by rw [h s hs]; exact Int.le_refl _
  omega
theorem sumR_succ (p : Nat) (f : Nat → Int) : sumR (p + 1) f = sumR p f + f p := by
  unfold sumR
  rw [List.range_succ, List.map_append, List.sum_append]
  simp
theorem sumR_add (p : Nat) (f g : Nat → Int) : sumR p (fun s => f s + g s) = sumR p f + sumR p g := by
  induction p with
  | zero => rfl
  | succ p ih => rw [sumR_succ, sumR_succ, sumR_succ, ih]; omega
theorem sumR_sub (p : Nat) (f g : Nat → Int) : sumR p (fun s => f s - g s) = sumR p f - sumR p g := by
  induction p with
  | zero => rfl
  | succ p ih => rw [sumR_succ, sumR_succ, sumR_succ, ih]; omega
theorem sumR_c (p : Nat) (c : Int) : sumR p (fun _ => c) = c * p := by
  induction p with
  | zero => simp [sumR]
  | succ p ih =>
    rw [sumR_succ, ih]
    push_cast
    rw [Int.mul_add, Int.mul_one]
theorem sumR_one (p t : Nat) (c : Int) : sumR p (fun s => if s = t then c else 0) = if t < p then c else 0 := by
  induction p with
  | zero => rfl
  | succ p ih =>
    rw [sumR_succ, ih]
    by_cases h : p = t
    · subst h
      rw [if_neg (by omega), if_pos rfl, if_pos (by omega)]
      omega
    · rw [if_neg h]
      by_cases h2 : t < p
      · rw [if_pos h2, if_pos (by omega)]; omega
      · rw [if_neg h2, if_neg (by omega)]; omega
theorem sumR_ex {p : Nat} {f g : Nat → Int} (h : sumR p f < sumR p g) : ∃ t, t < p ∧ f t < g t := by
  by_cases q : ∃ t, t < p ∧ f t < g t
  · exact q
  · have := sumR_le (p := p) (f := g) (g := f) fun s hs => by
      by_cases z : f s < g s
      · exact absurd ⟨s, hs, z⟩ q
      · omega
    omega
theorem low1 : lowP 1 = 16 := by decide
theorem low2 : lowP 2 = 8 := by decide
theorem low3 : lowP 3 = 5 := by decide
theorem low4 : lowP 4 = 4 := by decide
theorem in0 (s : Nat) : inRI [] s = 0 := by simp [inRI]
/-- rich tasks: as many as are over -/
theorem rich_sum {p : Nat} (hp : four p) {R : List Int} (hR : R ∈ riches p) : sumR p (inRI R) = 16 - lowP p * p ∧ ∀ s, 0 ≤ inRI R s := by
  refine ⟨?_, fun s => by unfold inRI; split <;> omega⟩
  rcases hp with rfl | rfl | rfl | rfl
  · have : R = [] := by simpa [riches] using hR
    subst this; decide
  · have : R = [] := by simpa [riches] using hR
    subst this; decide
  · have : R = [0] ∨ R = [1] ∨ R = [2] := by simpa [riches] using hR
    rcases this with rfl | rfl | rfl <;> decide
  · have : R = [] := by simpa [riches] using hR
    subst this; decide
theorem room_sum {p : Nat} (hp : four p) {R : List Int} (hR : R ∈ riches p) (h : Nat → Int) : sumR p (roomR p R h) = 16 - sumR p h := by
  have e : sumR p (roomR p R h) = lowP p * p + sumR p (inRI R) - sumR p h := by
    unfold roomR
    rw [sumR_sub, sumR_add, sumR_c]
  rw [e, (rich_sum hp hR).1]
  omega
/-- one more place: the least is not less -/
theorem low_step {p : Nat} {R : List Int} {h l h' l' : Nat → Int} {n mv : Int} {o : Int} {t : Nat} (ht : t < p) (eh : ∀ s, h' s = h s + if s = t then 1 else 0) (el : ∀ s : Nat, l' s = l s - if o = s then 1 else 0) (f : fitR p R h') :
    fitR p R h ∧ valR p R h l n mv ≤ valR p R h' l' (n + 1) (mv + if o = t then 0 else 1) := by
  have er : ∀ s, roomR p R h' s = roomR p R h s - if s = t then 1 else 0 := fun s => by unfold roomR; rw [eh]; omega
  refine ⟨fun s hs => ?_, ?_⟩
  · have := f s hs
    rw [er] at this
    split at this <;> omega
  · have hk : keptR p R h' l' ≤ keptR p R h l - if o = t then 1 else 0 := by
      have e1 : (if o = (t : Int) then (1 : Int) else 0) = sumR p fun s => if s = t then (if o = (t : Int) then (1 : Int) else 0) else 0 := by rw [sumR_one, if_pos ht]
      rw [e1]
      unfold keptR
      rw [← sumR_sub]
      refine sumR_le fun s hs => ?_
      rw [er, el]
      by_cases a : s = t
      · subst a
        rw [if_pos rfl, if_pos rfl]
        split <;> omega
      · rw [if_neg a, if_neg a]
        split <;> omega
    unfold valR
    split at hk <;> split <;> first | contradiction | omega
/-- one more place: the least can be kept -/
theorem keep_step {p : Nat} (hp : four p) {R : List Int} (hR : R ∈ riches p) {h l h' l' : Nat → Nat → Int} {n mv : Int} {o : Int} (hh : sumR p (h 0) = n) (hn : n < 16) (eh : ∀ t s, h' t s = h 0 s + if s = t then 1 else 0) (el : ∀ s : Nat, l' 0 s = l 0 s - if o = s then 1 else 0) (l0 : ∀ s, 0 ≤ l' 0 s) (ls : sumR p (l' 0) ≤ 15 - n) (f : fitR p R (h 0)) :
    ∃ t, t < p ∧ fitR p R (h' t) ∧ valR p R (h' t) (l' 0) (n + 1) (mv + if o = t then 0 else 1) = valR p R (h 0) (l 0) n mv := by
  have er : ∀ t s, roomR p R (h' t) s = roomR p R (h 0) s - if s = t then 1 else 0 := fun t s => by unfold roomR; rw [eh]; omega
  by_cases c : ∃ t : Nat, t < p ∧ o = t ∧ 1 ≤ roomR p R (h 0) t
  · obtain ⟨t, ht, ho, hr⟩ := c
    refine ⟨t, ht, fun s hs => ?_, ?_⟩
    · rw [er]
      have := f s hs
      by_cases a : s = t
      · subst a; rw [if_pos rfl]; omega
      · rw [if_neg a]; omega
    · have hk : keptR p R (h' t) (l' 0) = keptR p R (h 0) (l 0) - 1 := by
        have e1 : (1 : Int) = sumR p fun s => if s = t then (1 : Int) else 0 := by rw [sumR_one, if_pos ht]
        rw [e1]
        unfold keptR
        rw [← sumR_sub]
        refine sumR_eq fun s hs => ?_
        rw [er, el]
        by_cases a : s = t
        · subst a
          rw [if_pos rfl, if_pos ho]
          omega
        · rw [if_neg a, if_neg (by omega)]
          omega
      unfold valR
      rw [hk, if_pos ho]
      omega
  · have hsum := room_sum hp hR (h 0)
    obtain ⟨t, ht, hlt⟩ := sumR_ex (p := p) (f := l' 0) (g := roomR p R (h 0)) (by omega)
    have hl0 := l0 t
    have ho : o ≠ t := fun e => c ⟨t, ht, e, by omega⟩
    refine ⟨t, ht, fun s hs => ?_, ?_⟩
    · rw [er]
      have := f s hs
      by_cases a : s = t
      · subst a; rw [if_pos rfl]; omega
      · rw [if_neg a]; omega
    · have hk : keptR p R (h' t) (l' 0) = keptR p R (h 0) (l 0) := by
        unfold keptR
        refine sumR_eq fun s hs => ?_
        rw [er]
        have hls := l0 s
        have els := el s
        by_cases a : s = t
        · subst a
          rw [if_neg ho] at els
          rw [if_pos rfl]
          omega
        · rw [if_neg a]
          by_cases b : o = s
          · rw [if_pos b] at els
            have hr : ¬ 1 ≤ roomR p R (h 0) s := fun z => c ⟨s, hs, b, z⟩
            have := f s hs
            omega
          · rw [if_neg b] at els
            omega
      unfold valR
      rw [hk, if_neg ho]
      omega
/-- the least, by trying every choice of rich tasks -/
def fitB (p : Nat) (R : List Int) (h : Nat → Int) : Bool := (List.range p).all fun s => decide (0 ≤ roomR p R h s)
theorem fitB_iff {p : Nat} {R : List Int} {h : Nat → Int} : fitB p R h = true ↔ fitR p R h := by
  unfold fitB fitR
  rw [List.all_eq_true]
  exact ⟨fun q s hs => of_decide_eq_true (q s (List.mem_range.mpr hs)), fun q s hs => decide_eq_true (q s (List.mem_range.mp hs))⟩
def bestS (p : Nat) (h l : Nat → Int) (n mv : Int) (b : Option Int) (R : List Int) : Option Int :=
  if fitB p R h = true ∧ (b = none ∨ ∃ v, b = some v ∧ valR p R h l n mv < v) then some (valR p R h l n mv) else b
def gval (p : Nat) (h l : Nat → Int) (n mv : Int) : Option Int := (riches p).foldl (bestS p h l n mv) none
theorem gval_isG (p : Nat) (h l : Nat → Int) (n mv : Int) : isG p h l n mv (gval p h l n mv) := by
  have go : ∀ (L D : List (List Int)) (b : Option Int), ((∀ R ∈ D, fitR p R h → ∃ v, b = some v ∧ v ≤ valR p R h l n mv) ∧ (∀ v, b = some v → ∃ R ∈ D, fitR p R h ∧ v = valR p R h l n mv)) →
      ((∀ R ∈ D ++ L, fitR p R h → ∃ v, L.foldl (bestS p h l n mv) b = some v ∧ v ≤ valR p R h l n mv) ∧ (∀ v, L.foldl (bestS p h l n mv) b = some v → ∃ R ∈ D ++ L, fitR p R h ∧ v = valR p R h l n mv)) := by
    intro L
    induction L with
    | nil => intro D b h; simpa using h
    | cons R0 L ih =>
      intro D b ⟨g1, g2⟩
      have e : D ++ R0 :: L = (D ++ [R0]) ++ L := by simp
      rw [e, List.foldl_cons]
      refine ih (D ++ [R0]) _ ⟨fun R hR f => ?_, fun v hv => ?_⟩
      · unfold bestS
        rcases List.mem_append.mp hR with h1 | h1
        · obtain ⟨v, e1, e2⟩ := g1 R h1 f
          by_cases c : fitB p R0 h = true ∧ (b = none ∨ ∃ v, b = some v ∧ valR p R0 h l n mv < v)
          · rw [if_pos c]
            refine ⟨_, rfl, ?_⟩
            rcases c.2 with c2 | ⟨v', c2, c3⟩
            · rw [c2] at e1; cases e1
            · rw [c2] at e1; cases e1; omega
          · rw [if_neg c]
            exact ⟨v, e1, e2⟩
        · have hR0 : R = R0 := List.mem_singleton.mp h1
          subst hR0
          by_cases c : fitB p R h = true ∧ (b = none ∨ ∃ v, b = some v ∧ valR p R h l n mv < v)
          · rw [if_pos c]
            exact ⟨_, rfl, Int.le_refl _⟩
          · rw [if_neg c]
            cases hb : b with
            | none => exact absurd ⟨fitB_iff.mpr f, .inl hb⟩ c
            | some v =>
              refine ⟨v, rfl, ?_⟩
              by_cases z : valR p R h l n mv < v
              · exact absurd ⟨fitB_iff.mpr f, .inr ⟨v, hb, z⟩⟩ c
              · omega
      · unfold bestS at hv
        by_cases c : fitB p R0 h = true ∧ (b = none ∨ ∃ v, b = some v ∧ valR p R0 h l n mv < v)
        · rw [if_pos c] at hv
          cases hv
          exact ⟨R0, by simp, fitB_iff.mp c.1, rfl⟩
        · rw [if_neg c] at hv
          obtain ⟨R, h1, h2⟩ := g2 v hv
          exact ⟨R, List.mem_append_left _ h1, h2⟩
  have := go (riches p) [] none ⟨by simp, by simp⟩
  simpa [isG, gval] using this
/-! the other reckoning -/
def stepK (low : Int) (h l : Nat → Int) (q : Int × Int) (t : Nat) : Int × Int :=
  if 0 < q.2 ∧ h t ≤ low ∧ low - h t < l t then (q.1 + max 0 (min (l t) (low - h t)) + 1, q.2 - 1) else (q.1 + max 0 (min (l t) (low - h t)), q.2)
def aboveS (p : Nat) (h : Nat → Int) : Int := sumR p fun t => max 0 (h t - lowP p)
def canE (p : Nat) (h l : Nat → Int) (n mv : Int) : Option Int :=
  if ((List.range p).any fun t => decide (1 < max 0 (h t - lowP p))) = true ∨ 16 - lowP p * p < aboveS p h then none
  else if 16 - n < sumR p (fun t => max 0 (lowP p - h t)) then none
  else some (mv + (16 - n) - ((List.range p).foldl (stepK (lowP p) h l) (0, 16 - lowP p * p - aboveS p h)).1)
theorem fold0 (low : Int) (h l : Nat → Int) : ∀ (L : List Nat) (k : Int), (L.foldl (stepK low h l) (k, 0)).1 = k + (L.map fun t => max 0 (min (l t) (low - h t))).sum
  | [], k => by simp
  | t :: L, k => by
    rw [List.foldl_cons]
    unfold stepK
    rw [if_neg (by simp)]
    have := fold0 low h l L (k + max 0 (min (l t) (low - h t)))
    unfold stepK at this
    rw [this, List.map_cons, List.sum_cons]
    omega
theorem canE_flat {p : Nat} {h l : Nat → Int} {n mv : Int} (h1 : lowP p * p = 16) (h2 : riches p = [[]]) (st : Sts p h l n) : isG p h l n mv (canE p h l n mv) := by
  have er : ∀ s, roomR p [] h s = lowP p - h s := fun s => by unfold roomR inRI; simp
  by_cases f : fitR p [] h
  · have hle : ∀ s, s < p → h s ≤ lowP p := fun s hs => by have := f s hs; rw [er] at this; omega
    have ha : aboveS p h = 0 := by
      have : aboveS p h = sumR p fun _ => 0 := sumR_eq fun s hs => by have := hle s hs; omega
      rw [this, sumR_c]; omega
    have hn : sumR p (fun t => max 0 (lowP p - h t)) = 16 - n := by
      have : sumR p (fun t => max 0 (lowP p - h t)) = sumR p fun t => lowP p - h t := sumR_eq fun s hs => by have := hle s hs; omega
      rw [this, sumR_sub, sumR_c, h1, st.hs]
    have hany : ((List.range p).any fun t => decide (1 < max 0 (h t - lowP p))) = false := by
      rw [List.any_eq_false]
      intro s hs
      have := hle s (List.mem_range.mp hs)
      simp
      omega
    have hk : ((List.range p).foldl (stepK (lowP p) h l) (0, 16 - lowP p * p - aboveS p h)).1 = keptR p [] h l := by
      rw [h1, ha]
      show ((List.range p).foldl (stepK (lowP p) h l) (0, 0)).1 = _
      rw [fold0]
      have : keptR p [] h l = sumR p fun t => max 0 (min (l t) (lowP p - h t)) := sumR_eq fun s hs => by
        have := hle s hs
        have := st.ln s
        rw [er]
        omega
      rw [this]
      unfold sumR
      omega
    have e : canE p h l n mv = some (valR p [] h l n mv) := by
      unfold canE
      rw [hany, if_neg (by rw [ha, h1]; simp), if_neg (by rw [hn]; omega), hk]
      unfold valR
      congr 1
      omega
    rw [e]
    refine ⟨fun R hR _ => ?_, fun v hv => ⟨[], by rw [h2]; simp, f, by cases hv; rfl⟩⟩
    have : R = [] := by rw [h2] at hR; simpa using hR
    subst this
    exact ⟨_, rfl, Int.le_refl _⟩
  · obtain ⟨s, hs, hlt⟩ : ∃ s, s < p ∧ lowP p < h s := by
      by_cases q : ∃ s, s < p ∧ lowP p < h s
      · exact q
      · exact absurd (fun s hs => by rw [er]; by_cases z : lowP p < h s; exact absurd ⟨s, hs, z⟩ q; omega) f
    have ha : 1 ≤ aboveS p h := by
      have := sumR_le (p := p) (f := fun t => if t = s then (1 : Int) else 0) (g := fun t => max 0 (h t - lowP p)) fun t ht => by
        by_cases a : t = s
        · subst a; rw [if_pos rfl]; omega
        · rw [if_neg a]; omega
      rw [sumR_one, if_pos hs] at this
      exact this
    have e : canE p h l n mv = none := by
      unfold canE
      rw [if_pos (.inr (by rw [h1]; omega))]
    rw [e]
    refine ⟨fun R hR f' => ?_, fun v hv => by cases hv⟩
    have : R = [] := by rw [h2] at hR; simpa using hR
    subst this
    exact absurd f' f
theorem in1 (r : Nat) (s : Nat) : inRI [(r : Int)] s = if s = r then 1 else 0 := by
  unfold inRI
  by_cases h : s = r
  · simp [h]
  · rw [if_neg h, if_neg]
    simp
    omega
theorem stepK_yes {low : Int} {h l : Nat → Int} {k s : Int} {t : Nat} (c : 0 < s ∧ h t ≤ low ∧ low - h t < l t) : stepK low h l (k, s) t = (k + max 0 (min (l t) (low - h t)) + 1, s - 1) := by
  unfold stepK
  rw [if_pos c]
theorem stepK_no {low : Int} {h l : Nat → Int} {k s : Int} {t : Nat} (c : ¬ (0 < s ∧ h t ≤ low ∧ low - h t < l t)) : stepK low h l (k, s) t = (k + max 0 (min (l t) (low - h t)), s) := by
  unfold stepK
  rw [if_neg c]
theorem canE_three {h l : Nat → Int} {n mv : Int} (st : Sts 3 h l n) : isG 3 h l n mv (canE 3 h l n mv) := by
  have r0 : ∀ s, roomR 3 [0] h s = 5 + (if s = 0 then 1 else 0) - h s := fun s => by unfold roomR; rw [low3]; rw [show ([0] : List Int) = [((0 : Nat) : Int)] from rfl, in1]
  have r1 : ∀ s, roomR 3 [1] h s = 5 + (if s = 1 then 1 else 0) - h s := fun s => by unfold roomR; rw [low3]; rw [show ([1] : List Int) = [((1 : Nat) : Int)] from rfl, in1]
  have r2 : ∀ s, roomR 3 [2] h s = 5 + (if s = 2 then 1 else 0) - h s := fun s => by unfold roomR; rw [low3]; rw [show ([2] : List Int) = [((2 : Nat) : Int)] from rfl, in1]
  have f0 : fitR 3 [0] h ↔ h 0 ≤ 6 ∧ h 1 ≤ 5 ∧ h 2 ≤ 5 := by unfold fitR; rw [fit3, r0, r0, r0]; simp
  have f1 : fitR 3 [1] h ↔ h 0 ≤ 5 ∧ h 1 ≤ 6 ∧ h 2 ≤ 5 := by unfold fitR; rw [fit3, r1, r1, r1]; simp
  have f2 : fitR 3 [2] h ↔ h 0 ≤ 5 ∧ h 1 ≤ 5 ∧ h 2 ≤ 6 := by unfold fitR; rw [fit3, r2, r2, r2]; simp
  have v0 : valR 3 [0] h l n mv = mv + 16 - n - (min (6 - h 0) (l 0) + min (5 - h 1) (l 1) + min (5 - h 2) (l 2)) := by unfold valR keptR; rw [sum3, r0, r0, r0]; simp
  have v1 : valR 3 [1] h l n mv = mv + 16 - n - (min (5 - h 0) (l 0) + min (6 - h 1) (l 1) + min (5 - h 2) (l 2)) := by unfold valR keptR; rw [sum3, r1, r1, r1]; simp
  have v2 : valR 3 [2] h l n mv = mv + 16 - n - (min (5 - h 0) (l 0) + min (5 - h 1) (l 1) + min (6 - h 2) (l 2)) := by unfold valR keptR; rw [sum3, r2, r2, r2]; simp
  have a0 : aboveS 3 h = max 0 (h 0 - 5) + max 0 (h 1 - 5) + max 0 (h 2 - 5) := by unfold aboveS; rw [sum3, low3]
  have n0 : sumR 3 (fun t => max 0 (lowP 3 - h t)) = max 0 (5 - h 0) + max 0 (5 - h 1) + max 0 (5 - h 2) := by rw [sum3, low3]
  have hs := st.hs
  have ls := st.ls
  rw [sum3] at hs ls
  have h0 := st.hn 0; have h1 := st.hn 1; have h2 := st.hn 2
  have l0 := st.ln 0; have l1 := st.ln 1; have l2 := st.ln 2
  have hany : ((List.range 3).any fun t => decide (1 < max 0 (h t - lowP 3))) = true ↔ 6 < h 0 ∨ 6 < h 1 ∨ 6 < h 2 := by
    rw [low3]
    simp [List.range_succ]
    omega
  have hR : riches 3 = [[0], [1], [2]] := rfl
  have key : ∀ b : Option Int, ((h 0 ≤ 6 ∧ h 1 ≤ 5 ∧ h 2 ≤ 5 → ∃ v, b = some v ∧ v ≤ valR 3 [0] h l n mv) ∧ (h 0 ≤ 5 ∧ h 1 ≤ 6 ∧ h 2 ≤ 5 → ∃ v, b = some v ∧ v ≤ valR 3 [1] h l n mv) ∧ (h 0 ≤ 5 ∧ h 1 ≤ 5 ∧ h 2 ≤ 6 → ∃ v, b = some v ∧ v ≤ valR 3 [2] h l n mv) ∧
      ∀ v, b = some v → (h 0 ≤ 6 ∧ h 1 ≤ 5 ∧ h 2 ≤ 5) ∧ v = valR 3 [0] h l n mv ∨ (h 0 ≤ 5 ∧ h 1 ≤ 6 ∧ h 2 ≤ 5) ∧ v = valR 3 [1] h l n mv ∨ (h 0 ≤ 5 ∧ h 1 ≤ 5 ∧ h 2 ≤ 6) ∧ v = valR 3 [2] h l n mv) → isG 3 h l n mv b := fun b ⟨k0, k1, k2, k3⟩ => by
    refine ⟨fun R hm f => ?_, fun v hv => ?_⟩
    · rw [hR] at hm
      simp only [List.mem_cons, List.not_mem_nil, or_false] at hm
      rcases hm with rfl | rfl | rfl
      · exact k0 (f0.mp f)
      · exact k1 (f1.mp f)
      · exact k2 (f2.mp f)
    · rcases k3 v hv with ⟨a, b⟩ | ⟨a, b⟩ | ⟨a, b⟩
      · exact ⟨[0], by simp [hR], f0.mpr a, b⟩
      · exact ⟨[1], by simp [hR], f1.mpr a, b⟩
      · exact ⟨[2], by simp [hR], f2.mpr a, b⟩
  refine key _ ?_
  unfold canE
  by_cases c1 : ((List.range 3).any fun t => decide (1 < max 0 (h t - lowP 3))) = true ∨ 16 - lowP 3 * ((3 : Nat) : Int) < aboveS 3 h
  · rw [if_pos c1]
    rw [hany, low3, a0] at c1
    refine ⟨fun a => ?_, fun a => ?_, fun a => ?_, fun v hv => by cases hv⟩ <;> (exfalso; omega)
  · rw [if_neg c1]
    rw [hany, low3, a0] at c1
    rw [n0, if_neg (by omega), a0, low3]
    have hr : List.range 3 = [0, 1, 2] := by decide
    rw [hr]
    -- three turns
    have ek : ∃ k : Int, (([0, 1, 2] : List Nat).foldl (stepK 5 h l) (0, 16 - 5 * ((3 : Nat) : Int) - (max 0 (h 0 - 5) + max 0 (h 1 - 5) + max 0 (h 2 - 5)))).1 = k ∧
        k = max 0 (min (l 0) (5 - h 0)) + max 0 (min (l 1) (5 - h 1)) + max 0 (min (l 2) (5 - h 2)) + (if (h 0 ≤ 5 ∧ h 1 ≤ 5 ∧ h 2 ≤ 5) ∧ (5 - h 0 < l 0 ∨ 5 - h 1 < l 1 ∨ 5 - h 2 < l 2) then 1 else 0) := by
      refine ⟨_, rfl, ?_⟩
      simp only [List.foldl_cons, List.foldl_nil]
      have hsp : 16 - 5 * ((3 : Nat) : Int) - (max 0 (h 0 - 5) + max 0 (h 1 - 5) + max 0 (h 2 - 5)) = if h 0 ≤ 5 ∧ h 1 ≤ 5 ∧ h 2 ≤ 5 then 1 else 0 := by
        split <;> omega
      rw [hsp]
      by_cases d : h 0 ≤ 5 ∧ h 1 ≤ 5 ∧ h 2 ≤ 5
      · rw [if_pos d]
        by_cases d0 : 5 - h 0 < l 0
        · rw [stepK_yes (k := 0) (s := 1) (t := 0) ⟨by omega, d.1, d0⟩, stepK_no (s := 1 - 1) (t := 1) (by omega), stepK_no (s := 1 - 1) (t := 2) (by omega), if_pos ⟨d, .inl d0⟩]
          omega
        · rw [stepK_no (k := 0) (s := 1) (t := 0) (by omega)]
          by_cases d1 : 5 - h 1 < l 1
          · rw [stepK_yes (s := 1) (t := 1) ⟨by omega, d.2.1, d1⟩, stepK_no (s := 1 - 1) (t := 2) (by omega), if_pos ⟨d, .inr (.inl d1)⟩]
            omega
          · rw [stepK_no (s := 1) (t := 1) (by omega)]
            by_cases d2 : 5 - h 2 < l 2
            · rw [stepK_yes (s := 1) (t := 2) ⟨by omega, d.2.2, d2⟩, if_pos ⟨d, .inr (.inr d2)⟩]
              omega
            · rw [stepK_no (s := 1) (t := 2) (by omega), if_neg (by omega)]
              omega
      · rw [if_neg d, if_neg fun z => d z.1]
        have := fold0 5 h l [0, 1, 2] 0
        simp only [List.foldl_cons, List.foldl_nil, List.map_cons, List.map_nil, List.sum_cons, List.sum_nil] at this
        rw [this]
        omega
    obtain ⟨k, ek1, ek2⟩ := ek
    rw [ek1, v0, v1, v2]
    clear ek1 v0 v1 v2 a0 n0 r0 r1 r2 f0 f1 f2 hany key hR hr
    refine ⟨fun a => ⟨_, rfl, ?_⟩, fun a => ⟨_, rfl, ?_⟩, fun a => ⟨_, rfl, ?_⟩, fun v hv => ?_⟩
    · split at ek2 <;> omega
    · split at ek2 <;> omega
    · split at ek2 <;> omega
    · have hv : mv + (16 - n) - k = v := by simpa using hv
      by_cases d : h 0 ≤ 5 ∧ h 1 ≤ 5 ∧ h 2 ≤ 5
      · by_cases d0 : 5 - h 0 < l 0
        · rw [if_pos ⟨d, .inl d0⟩] at ek2
          exact .inl ⟨by omega, by omega⟩
        · by_cases d1 : 5 - h 1 < l 1
          · rw [if_pos ⟨d, .inr (.inl d1)⟩] at ek2
            exact .inr (.inl ⟨by omega, by omega⟩)
          · by_cases d2 : 5 - h 2 < l 2
            · rw [if_pos ⟨d, .inr (.inr d2)⟩] at ek2
              exact .inr (.inr ⟨by omega, by omega⟩)
            · rw [if_neg (by omega)] at ek2
              exact .inl ⟨by omega, by omega⟩
      · rw [if_neg fun z => d z.1] at ek2
        by_cases e0 : h 0 = 6
        · exact .inl ⟨by omega, by omega⟩
        · by_cases e1 : h 1 = 6
          · exact .inr (.inl ⟨by omega, by omega⟩)
          · exact .inr (.inr ⟨by omega, by omega⟩)
theorem canE_isG {p : Nat} (hp : four p) {h l : Nat → Int} {n mv : Int} (st : Sts p h l n) : isG p h l n mv (canE p h l n mv) := by
  rcases hp with rfl | rfl | rfl | rfl
  · exact canE_flat (by decide) rfl st
  · exact canE_flat (by decide) rfl st
  · exact canE_three st
  · exact canE_flat (by decide) rfl st
end Lw
set_option maxHeartbeats 4000000
/-! owners: the greedy choice, place by place -/
namespace Lw
def hC (c : List Int) (s : Nat) : Int := cntI s c
def lC (ow c : List Int) (s : Nat) : Int := cntI s (ow.drop c.length)
def mvd (ow c : List Int) : Int := (((List.range c.length).filter fun k => decide (ow[k]? ≠ c[k]?)).length : Nat)
def GV (p : Nat) (ow c : List Int) : Option Int := gval p (hC c) (lC ow c) c.length (mvd ow c)
theorem cnt_cons (t x : Int) (l : List Int) : cntI t (x :: l) = (if x = t then 1 else 0) + cntI t l := by
  unfold cntI
  by_cases h : x = t
  · rw [List.filter_cons_of_pos (by simpa using h), if_pos h, List.length_cons]
    push_cast
    omega
  · rw [List.filter_cons_of_neg (by simpa using h), if_neg h]
    omega
theorem cnt_app (t : Int) (a b : List Int) : cntI t (a ++ b) = cntI t a + cntI t b := by
  unfold cntI
  rw [List.filter_append, List.length_append]
  push_cast
  rfl
theorem cnt_one (t x : Int) : cntI t [x] = if x = t then 1 else 0 := by
  rw [cnt_cons]
  have : cntI t [] = 0 := rfl
  rw [this, Int.add_zero]
theorem cnt_nn (t : Int) (l : List Int) : 0 ≤ cntI t l := Int.natCast_nonneg _
theorem cnt_sum_le (p : Nat) : ∀ l : List Int, sumR p (fun s => cntI s l) ≤ l.length
  | [] => by
    have : sumR p (fun s => cntI s []) = sumR p fun _ => 0 := sumR_eq fun s _ => rfl
    rw [this, sumR_c]
    simp
  | x :: l => by
    have e : sumR p (fun s => cntI s (x :: l)) = sumR p (fun s => if x = (s : Int) then 1 else 0) + sumR p fun s => cntI s l := by
      rw [← sumR_add]
      exact sumR_eq fun s _ => cnt_cons s x l
    have h1 : sumR p (fun s => if x = (s : Int) then 1 else 0) ≤ 1 := by
      by_cases hx : 0 ≤ x
      · have : sumR p (fun s => if x = (s : Int) then (1 : Int) else 0) = sumR p fun s => if s = x.toNat then 1 else 0 := sumR_eq fun s _ => by
          by_cases z : x = (s : Int)
          · rw [if_pos z, if_pos (by omega)]
          · rw [if_neg z, if_neg (by omega)]
        rw [this, sumR_one]
        split <;> omega
      · have : sumR p (fun s => if x = (s : Int) then (1 : Int) else 0) = sumR p fun _ => 0 := sumR_eq fun s _ => by rw [if_neg (by omega)]
        rw [this, sumR_c]
        omega
    have ih := cnt_sum_le p l
    rw [e, List.length_cons]
    push_cast
    omega
def inP4 (p : Nat) (c : List Int) : Prop := ∀ x ∈ c, 0 ≤ x ∧ x < p
theorem cnt_sum {p : Nat} : ∀ {l : List Int}, inP4 p l → sumR p (fun s => cntI s l) = l.length
  | [], _ => by
    have : sumR p (fun s => cntI s []) = sumR p fun _ => 0 := sumR_eq fun s _ => rfl
    rw [this, sumR_c]
    simp
  | x :: l, h => by
    have e : sumR p (fun s => cntI s (x :: l)) = sumR p (fun s => if x = (s : Int) then 1 else 0) + sumR p fun s => cntI s l := by
      rw [← sumR_add]
      exact sumR_eq fun s _ => cnt_cons s x l
    obtain ⟨h0, h1⟩ := h x List.mem_cons_self
    have h1 : sumR p (fun s => if x = (s : Int) then 1 else 0) = 1 := by
      have : sumR p (fun s => if x = (s : Int) then (1 : Int) else 0) = sumR p fun s => if s = x.toNat then 1 else 0 := sumR_eq fun s _ => by
        by_cases z : x = (s : Int)
        · rw [if_pos z, if_pos (by omega)]
        · rw [if_neg z, if_neg (by omega)]
      rw [this, sumR_one, if_pos (by omega)]
    rw [e, h1, cnt_sum fun y hy => h y (List.mem_cons_of_mem _ hy), List.length_cons]
    push_cast
    omega
theorem sts_of {p : Nat} {ow c : List Int} (ho : ow.length = 16) (hc : inP4 p c) (hl : c.length ≤ 16) : Sts p (hC c) (lC ow c) c.length := by
  refine ⟨fun s => cnt_nn _ _, fun s => cnt_nn _ _, cnt_sum hc, ?_⟩
  have := cnt_sum_le p (ow.drop c.length)
  rw [List.length_drop, ho] at this
  unfold lC
  omega
/-- one more place -/
theorem hC_snoc (c : List Int) (t s : Nat) : hC (c ++ [(t : Int)]) s = hC c s + if s = t then 1 else 0 := by
  unfold hC
  rw [cnt_app, cnt_one]
  by_cases h : s = t
  · subst h; rw [if_pos rfl, if_pos rfl]
  · rw [if_neg h, if_neg (by omega)]
theorem lC_snoc {ow c : List Int} (h : c.length < ow.length) (t : Int) (s : Nat) : lC ow (c ++ [t]) s = lC ow c s - if ow[c.length] = (s : Int) then 1 else 0 := by
  unfold lC
  rw [List.length_append, List.length_singleton, List.drop_eq_getElem_cons h, cnt_cons]
  omega
theorem mvd_snoc {ow c : List Int} (h : c.length < ow.length) (t : Int) : mvd ow (c ++ [t]) = mvd ow c + if ow[c.length] = t then 0 else 1 := by
  unfold mvd
  rw [List.length_append, List.length_singleton, List.range_succ, List.filter_append, List.length_append]
  have e1 : (List.range c.length).filter (fun k => decide (ow[k]? ≠ (c ++ [t])[k]?)) = (List.range c.length).filter fun k => decide (ow[k]? ≠ c[k]?) := List.filter_congr fun k hk => by
    rw [List.getElem?_append_left (List.mem_range.mp hk)]
  have e2 : (c ++ [t])[c.length]? = some t := by simp
  rw [e1]
  by_cases z : ow[c.length] = t
  · rw [if_pos z, List.filter_cons_of_neg (by simp [h, z])]
    simp
  · rw [if_neg z, List.filter_cons_of_pos (by simp [h, z])]
    simp
theorem mvd_nn (ow c : List Int) : 0 ≤ mvd ow c := Int.natCast_nonneg _
theorem gv_is (p : Nat) (ow c : List Int) : isG p (hC c) (lC ow c) c.length (mvd ow c) (GV p ow c) := gval_isG _ _ _ _ _
/-- nothing told from here on costs less than what has moved -/
theorem val_ge {p : Nat} {R : List Int} {h l : Nat → Int} {n mv : Int} (ls : sumR p l ≤ 16 - n) : mv ≤ valR p R h l n mv := by
  have : keptR p R h l ≤ sumR p l := sumR_le fun s _ => by omega
  unfold valR
  omega
theorem gv_step {p : Nat} (hp : four p) {ow c : List Int} {v : Int} (ho : ow.length = 16) (hc : inP4 p c) (hl : c.length < 16) (hv : GV p ow c = some v) : ∃ t, t < p ∧ GV p ow (c ++ [((t : Nat) : Int)]) = some v := by
  have hlo : c.length < ow.length := by omega
  obtain ⟨g1, g2⟩ := gv_is p ow c
  obtain ⟨R, hR, f, ev⟩ := g2 v hv
  have st := sts_of ho hc (by omega)
  have ls' : sumR p (lC ow (c ++ [(0 : Int)])) ≤ 15 - (c.length : Int) := by
    have := cnt_sum_le p (ow.drop (c ++ [(0 : Int)]).length)
    rw [List.length_drop, ho, List.length_append, List.length_singleton] at this
    unfold lC
    rw [List.length_append, List.length_singleton]
    omega
  obtain ⟨t, ht, f', e'⟩ := keep_step hp hR (h := fun _ => hC c) (l := fun _ => lC ow c) (h' := fun t => hC (c ++ [(t : Int)])) (l' := fun _ => lC ow (c ++ [(0 : Int)])) (mv := mvd ow c) (o := ow[c.length]) st.hs (by omega) (fun t s => hC_snoc c t s) (fun s => lC_snoc hlo 0 s) (fun s => cnt_nn _ _) ls' f
  have el : lC ow (c ++ [(t : Int)]) = lC ow (c ++ [(0 : Int)]) := by unfold lC; rw [List.length_append, List.length_append]; rfl
  refine ⟨t, ht, ?_⟩
  obtain ⟨k1, k2⟩ := gv_is p ow (c ++ [(t : Int)])
  have en : (((c ++ [(t : Int)]).length : Nat) : Int) = c.length + 1 := by simp
  rw [en, mvd_snoc hlo, el] at k1 k2
  obtain ⟨v1, h1, h2⟩ := k1 R hR f'
  obtain ⟨R2, hR2, f2, e2⟩ := k2 v1 h1
  obtain ⟨f3, e3⟩ := low_step (p := p) (R := R2) (h := hC c) (l := lC ow c) (h' := hC (c ++ [(t : Int)])) (l' := lC ow (c ++ [(0 : Int)])) (n := c.length) (mv := mvd ow c) (o := ow[c.length]) ht (fun s => hC_snoc c t s) (fun s => lC_snoc hlo 0 s) f2
  obtain ⟨v2, h3, h4⟩ := g1 R2 hR2 f3
  rw [hv] at h3
  cases h3
  rw [h1]
  congr 1
  omega
theorem gv_nil {p : Nat} (hp : four p) (ow : List Int) : ∃ v, GV p ow [] = some v := by
  obtain ⟨g1, _⟩ := gv_is p ow []
  have hne : ∃ R, R ∈ riches p ∧ fitR p R (hC []) := by
    have h0 : hC [] = fun _ => 0 := rfl
    rw [h0]
    rcases hp with rfl | rfl | rfl | rfl
    · exact ⟨[], by decide, fun s hs => by unfold roomR inRI; simp [low1]⟩
    · exact ⟨[], by decide, fun s hs => by unfold roomR inRI; simp [low2]⟩
    · exact ⟨[0], by decide, fun s hs => by unfold roomR inRI; rw [low3]; dsimp only; split <;> omega⟩
    · exact ⟨[], by decide, fun s hs => by unfold roomR inRI; simp [low4]⟩
  obtain ⟨R, h1, h2⟩ := hne
  obtain ⟨v, e, _⟩ := g1 R h1 h2
  exact ⟨v, e⟩
/-- the choice, place by place -/
def okT (p : Nat) (ow c : List Int) (t : Nat) : Bool := decide (GV p ow (c ++ [(t : Int)]) = GV p ow [])
def firstT (p : Nat) (ow c : List Int) : Nat := ((List.range p).find? (okT p ow c)).getD 0
def gk (p : Nat) (ow : List Int) : Nat → List Int
  | 0 => []
  | k + 1 => gk p ow k ++ [(firstT p ow (gk p ow k) : Int)]
structure GkF (p : Nat) (ow : List Int) (k : Nat) : Prop where
  len : (gk p ow k).length = k
  inp : inP4 p (gk p ow k)
  gv : GV p ow (gk p ow k) = GV p ow []
theorem find_first {P : Nat → Bool} : ∀ {L : List Nat} {t : Nat}, L.find? P = some t → P t = true ∧ t ∈ L := fun {L t} h => ⟨List.find?_some h, List.mem_of_find?_eq_some h⟩
theorem first_of {p : Nat} {P : Nat → Bool} (h : ∃ t, t < p ∧ P t = true) : ∃ t, (List.range p).find? P = some t ∧ t < p ∧ P t = true ∧ ∀ s, s < t → P s = false := by
  obtain ⟨t0, h1, h2⟩ := h
  cases q : (List.range p).find? P with
  | none => exact absurd h2 (by have := List.find?_eq_none.mp q t0 (List.mem_range.mpr h1); simpa using this)
  | some t =>
    refine ⟨t, rfl, List.mem_range.mp (List.mem_of_find?_eq_some q), List.find?_some q, fun s hs => ?_⟩
    obtain ⟨_, as, bs, e, hn⟩ := List.find?_eq_some_iff_append.mp q
    have hlen : as.length = t := by
      have h3 : (List.range p)[as.length]? = some t := by rw [e]; simp
      have h4 : as.length < p := by
        have := congrArg List.length e
        rw [List.length_range, List.length_append, List.length_cons] at this
        omega
      rw [List.getElem?_range h4] at h3
      exact Option.some.inj h3
    have hm : s ∈ as := by
      have h3 : (List.range p)[s]? = some s := List.getElem?_range (by
        have := List.mem_range.mp (List.mem_of_find?_eq_some q)
        omega)
      rw [e, List.getElem?_append_left (by omega)] at h3
      exact List.mem_of_getElem? h3
    simpa using hn s hm
theorem gk_ok {p : Nat} (hp : four p) {ow : List Int} (ho : ow.length = 16) : ∀ k, k ≤ 16 → GkF p ow k ∧ (∀ j, j < k → ∃ t, t < p ∧ gk p ow (j + 1) = gk p ow j ++ [(t : Int)] ∧ (List.range p).find? (okT p ow (gk p ow j)) = some t ∧ okT p ow (gk p ow j) t = true ∧ ∀ s, s < t → okT p ow (gk p ow j) s = false)
  | 0, _ => ⟨⟨rfl, by simp [gk, inP4], rfl⟩, fun j hj => absurd hj (by omega)⟩
  | k + 1, hk => by
    obtain ⟨g, gs⟩ := gk_ok hp ho k (by omega)
    obtain ⟨v, hv⟩ := gv_nil hp ow
    obtain ⟨t0, h1, h2⟩ := gv_step hp ho g.inp (by rw [g.len]; omega) (g.gv.trans hv)
    obtain ⟨t, e, ht, h3, h4⟩ := first_of (P := okT p ow (gk p ow k)) ⟨t0, h1, by unfold okT; rw [h2, hv]; simp⟩
    have et : firstT p ow (gk p ow k) = t := by unfold firstT; rw [e]; rfl
    have eg : gk p ow (k + 1) = gk p ow k ++ [(t : Int)] := by rw [gk, et]
    refine ⟨⟨by rw [eg, List.length_append, g.len]; rfl, fun x hx => ?_, ?_⟩, fun j hj => ?_⟩
    · rw [eg] at hx
      rcases List.mem_append.mp hx with h | h
      · exact g.inp x h
      · rw [List.mem_singleton.mp h]
        omega
    · rw [eg]
      exact of_decide_eq_true h3
    · by_cases z : j = k
      · subst z
        exact ⟨t, ht, eg, e, h3, h4⟩
      · exact gs j (by omega)
/-- even owners -/
def evenO (p : Nat) (ow : List Int) : Prop := ow.length = 16 ∧ inP4 p ow ∧ ∃ R ∈ riches p, ∀ s, s < p → cntI s ow = lowP p + inRI R s
theorem gk_even {p : Nat} (hp : four p) {ow : List Int} (ho : ow.length = 16) : evenO p (gk p ow 16) := by
  obtain ⟨g, _⟩ := gk_ok hp ho 16 (Nat.le_refl _)
  obtain ⟨v, hv⟩ := gv_nil hp ow
  obtain ⟨_, g2⟩ := gv_is p ow (gk p ow 16)
  obtain ⟨R, hR, f, _⟩ := g2 v (g.gv.trans hv)
  refine ⟨g.len, g.inp, R, hR, fun s hs => ?_⟩
  have h1 := room_sum hp hR (hC (gk p ow 16))
  have h2 : sumR p (hC (gk p ow 16)) = 16 := by
    have := cnt_sum g.inp
    rw [g.len] at this
    exact this
  rw [h2] at h1
  have h3 := f s hs
  have h4 : roomR p R (hC (gk p ow 16)) s ≤ 0 := by
    by_cases z : roomR p R (hC (gk p ow 16)) s ≤ 0
    · exact z
    · have := sumR_le (p := p) (f := fun t => if t = s then (1 : Int) else 0) (g := roomR p R (hC (gk p ow 16))) fun t ht => by
        by_cases a : t = s
        · subst a; rw [if_pos rfl]; omega
        · rw [if_neg a]; exact f t ht
      rw [sumR_one, if_pos hs] at this
      omega
  unfold roomR hC at h3 h4
  omega
/-- even owners stay -/
theorem gk_stay {p : Nat} (hp : four p) {ow : List Int} (he : evenO p ow) : ∀ k, k ≤ 16 → gk p ow k = ow.take k
  | 0, _ => rfl
  | k + 1, hk => by
    obtain ⟨ho, hi, R, hR, hc⟩ := he
    have ih := gk_stay hp ⟨ho, hi, R, hR, hc⟩ k (by omega)
    obtain ⟨t, ht, e1, e2, e3, e4⟩ := (gk_ok hp ho (k + 1) hk).2 k (by omega)
    have hlo : k < ow.length := by omega
    have gvt : ∀ j, j ≤ 16 → GV p ow (ow.take j) = some 0 := fun j hj => by
      have hjl : (ow.take j).length = j := by rw [List.length_take, ho]; omega
      obtain ⟨g1, g2⟩ := gv_is p ow (ow.take j)
      rw [hjl] at g1 g2
      have hm : mvd ow (ow.take j) = 0 := by
        unfold mvd
        rw [hjl, List.filter_eq_nil_iff.mpr fun x hx => by
          rw [List.getElem?_take_of_lt (List.mem_range.mp hx)]
          simp]
        rfl
      rw [hm] at g1 g2
      have hr : ∀ s, s < p → roomR p R (hC (ow.take j)) s = lC ow (ow.take j) s := fun s hs => by
        have h1 := hc s hs
        have h2 := cnt_app s (ow.take j) (ow.drop j)
        rw [List.take_append_drop] at h2
        unfold roomR hC lC
        rw [hjl]
        omega
      have hsl : sumR p (lC ow (ow.take j)) = 16 - (j : Int) := by
        have h1 : sumR p (lC ow (ow.take j)) = ((ow.drop (ow.take j).length).length : Nat) := cnt_sum fun x hx => hi x (List.mem_of_mem_drop hx)
        rw [h1, List.length_drop, hjl, ho]
        omega
      have hk0 : keptR p R (hC (ow.take j)) (lC ow (ow.take j)) = 16 - j := by
        rw [← hsl]
        exact sumR_eq fun s hs => by rw [hr s hs]; omega
      obtain ⟨v, h1, h2⟩ := g1 R hR fun s hs => by rw [hr s hs]; exact cnt_nn _ _
      obtain ⟨R2, _, _, h3⟩ := g2 v h1
      have h4 := val_ge (p := p) (R := R2) (h := hC (ow.take j)) (l := lC ow (ow.take j)) (n := j) (mv := 0) (by omega)
      unfold valR at h2
      rw [h1]
      congr 1
      omega
    have hg0 : GV p ow [] = some 0 := gvt 0 (by omega)
    have hok : okT p ow (gk p ow k) t = true := e3
    unfold okT at hok
    have hok := of_decide_eq_true hok
    rw [ih, hg0] at hok
    have hkl : (ow.take k).length = k := by rw [List.length_take, ho]; omega
    have hto : ow[k] = (t : Int) := by
      by_cases z : ow[k] = (t : Int)
      · exact z
      · obtain ⟨_, g2⟩ := gv_is p ow (ow.take k ++ [(t : Int)])
        obtain ⟨R2, _, _, h3⟩ := g2 0 hok
        have hlk : (ow.take k).length < ow.length := by omega
        have hms := mvd_snoc (ow := ow) (c := ow.take k) hlk (t : Int)
        have hgk : ow[(ow.take k).length] = ow[k] := by congr 1
        rw [hgk, if_neg z] at hms
        have h4 := val_ge (p := p) (R := R2) (h := hC (ow.take k ++ [(t : Int)])) (l := lC ow (ow.take k ++ [(t : Int)])) (n := (((ow.take k ++ [(t : Int)]).length : Nat) : Int)) (mv := mvd ow (ow.take k ++ [(t : Int)])) (by
          have := cnt_sum_le p (ow.drop (ow.take k ++ [(t : Int)]).length)
          rw [List.length_drop, ho] at this
          rw [List.length_append, List.length_singleton, hkl] at this ⊢
          unfold lC
          rw [List.length_append, List.length_singleton, hkl]
          omega)
        have := mvd_nn ow (ow.take k)
        omega
    rw [e1, ih, ← hto, List.take_succ_eq_append_getElem hlo]
end Lw
set_option maxHeartbeats 4000000
namespace Lw
open PySem PySem.Spec PyProof.Rows L2 Dn
def topS (i : Nat) : Stmt := PySem.Challenge.pw_tideweir_k71_owners.main.body.getD i (.Pass ⟨0, 0, 0, 0⟩)
abbrev s__law_cell : Stmt := topS 7
abbrev N__law_cell : List Str := ["script", "k"]
theorem sc__law_cell : FnScope N__law_cell ["script", "k"] (defScope s__law_cell) := ⟨rfl, rfl, rfl, by decide +kernel, rfl, by decide +kernel, by decide +kernel⟩
def g__law_cell : Sd := (sSeq (sIf (gTst (gBin ltD (gVar 1) (gApp lenF (gCons (gVar 0) gNil)))) (sRet (gBin ixD (gVar 0) (gVar 1))) sNext)
  (sRet (gC (.int 0))))
def f__law_cell : List D → Option D := runV 2 g__law_cell
abbrev s__law_digit : Stmt := topS 10
abbrev N__law_digit : List Str := ["state", "many"]
theorem sc__law_digit : FnScope N__law_digit ["state", "many"] (defScope s__law_digit) := ⟨rfl, rfl, rfl, by decide +kernel, rfl, by decide +kernel, by decide +kernel⟩
def g__law_digit : Sd := (sSeq (sSetIx 0 (gBin modD (gApp intF (gCons (gBin addD (gBin mulS (gIxB 0 (gC (.int 0))) (gC (.int 6364136223846793005))) (gC (.int 1442695040888963407))) gNil)) (gC (.int 18446744073709551557))) (gC (.int 0)))
  (sRet (gBin modD (gApp intF (gCons (gBin fdivD (gIxB 0 (gC (.int 0))) (gC (.int 65536))) gNil)) (gVar 1))))
def f__law_digit : D → List D → Option (D × D) := runIO 2 g__law_digit
abbrev s__law_choose : Stmt := topS 11
abbrev N__law_choose : List Str := ["parallel", "many", "found", "k", "rich", "task"]
theorem sc__law_choose : FnScope N__law_choose ["parallel", "many"] (defScope s__law_choose) := ⟨rfl, rfl, rfl, by decide +kernel, rfl, by decide +kernel, by decide +kernel⟩
def g__law_choose : Sd := (sSeq (sOwn 2 (gApp mkLst gNil))
  (sSeq (sFor (gRng1 (gCons (gC (.int 16)) gNil)) (gTN 3)
  (sSeq (sOwn 4 (gLc [5] (gRng1 (gCons (gVar 0) gNil)) (gTN 5) (gTst (gBin eqD (gBin modD (gBin fdivD (gApp intF (gCons (gVar 3) gNil)) (gBin ixD (gApp mkTup (gCons (gC (.int 1)) (gCons (gC (.int 2)) (gCons (gC (.int 4)) (gCons (gC (.int 8)) gNil))))) (gVar 5))) (gC (.int 2))) (gC (.int 1)))) (gVar 5)))
  (sIf (gAnd (gTst (gBin eqD (gPk 4 lenF) (gVar 1))) (gTst (gBin ltD (gVar 3) (gBin ixD (gApp mkTup (gCons (gC (.int 2)) (gCons (gC (.int 4)) (gCons (gC (.int 8)) (gCons (gC (.int 16)) gNil))))) (gBin subD (gVar 0) (gC (.int 1))))))) (sApp 2 (gFrz 4)) sNext)))
  (sRet (gFrz 2))))
def f__law_choose : List D → Option D := runV 6 g__law_choose
abbrev s__law_fewest : Stmt := topS 12
abbrev N__law_fewest : List Str := ["owners", "chosen", "parallel", "low", "best", "rich", "kept", "fits", "task", "room", "later", "moved", "number", "k"]
theorem sc__law_fewest : FnScope N__law_fewest ["owners", "chosen", "parallel"] (defScope s__law_fewest) := ⟨rfl, rfl, rfl, by decide +kernel, rfl, by decide +kernel, by decide +kernel⟩
def g__law_fewest : Sd := (sSeq (sSet 3 (gBin fdivD (gC (.int 16)) (gVar 2)))
  (sSeq (sSet 4 (gC .none))
  (sSeq (sFor (gSeq (gApp f__law_choose (gCons (gVar 2) (gCons (gBin subD (gC (.int 16)) (gBin mulD (gVar 3) (gVar 2))) gNil)))) (gTN 5)
  (sSeq (sSet 6 (gC (.int 0)))
  (sSeq (sSet 7 (gC (.bool true)))
  (sSeq (sFor (gRng1 (gCons (gVar 2) gNil)) (gTN 8)
  (sSeq (sSet 9 (gBin subD (gBin addD (gVar 3) (gApp intF (gCons (gBin inD (gVar 8) (gVar 5)) gNil))) (gApp lenF (gCons (gLc [12] (gSeq (gVar 1)) (gTN 12) (gTst (gBin eqD (gVar 12) (gVar 8))) (gVar 12)) gNil))))
  (sSeq (sSet 10 (gApp lenF (gCons (gLc [12] (gSeq (gSl (gVar 0) (gPart (gApp lenF (gCons (gVar 1) gNil))) gNoP)) (gTN 12) (gTst (gBin eqD (gVar 12) (gVar 8))) (gVar 12)) gNil)))
  (sSeq (sSet 7 (gAndV (gVar 7) (gBin geD (gVar 9) (gC (.int 0)))))
  (sSet 6 (gBin addD (gVar 6) (gApp minF (gCons (gVar 9) (gCons (gVar 10) gNil)))))))))
  (sSeq (sSet 11 (gBin subD (gBin subD (gBin addD (gApp lenF (gCons (gLc [13] (gRng1 (gCons (gApp lenF (gCons (gVar 1) gNil)) gNil)) (gTN 13) (gTst (gBin neD (gBin ixD (gVar 0) (gVar 13)) (gBin ixD (gVar 1) (gVar 13)))) (gVar 13)) gNil)) (gC (.int 16))) (gApp lenF (gCons (gVar 1) gNil))) (gVar 6)))
  (sIf (gAnd (gTru (gVar 7)) (gOr (gTst (gBin isD (gVar 4) (gC .none))) (gTst (gBin ltD (gVar 11) (gVar 4))))) (sSet 4 (gVar 11)) sNext))))))
  (sRet (gVar 4)))))
def f__law_fewest : List D → Option D := runV 14 g__law_fewest
abbrev s__law_start : Stmt := topS 9
abbrev N__law_start : List Str := ["cell", "k"]
theorem sc__law_start : FnScope N__law_start ["cell", "k"] (defScope s__law_start) := ⟨rfl, rfl, rfl, by decide +kernel, rfl, by decide +kernel, by decide +kernel⟩
def g__law_start : Sd := (sRof (gApp mkLst (gCons (gBin modD (gApp intF (gCons (gBin addD (gBin mulS (gVar 0) (gC (.int 2654435761))) (gBin mulS (gBin addD (gVar 1) (gC (.int 1))) (gC (.int 6700417)))) gNil)) (gC (.int 18446744073709551557))) gNil)))
def f__law_start : List D → Option D := runF 2 g__law_start
abbrev s_even_owners : Stmt := topS 5
abbrev N_even_owners : List Str := ["parallel", "group"]
theorem sc_even_owners : FnScope N_even_owners ["parallel"] (defScope s_even_owners) := ⟨rfl, rfl, rfl, by decide +kernel, rfl, by decide +kernel, by decide +kernel⟩
def g_even_owners : Sd := (sRet (gApp tupF (gCons (gLc [1] (gRng1 (gCons (gC (.int 16)) gNil)) (gTN 1) gTrue (gBin fdivD (gBin mulD (gVar 1) (gVar 0)) (gC (.int 16)))) gNil)))
def f_even_owners : List D → Option D := runV 2 g_even_owners
abbrev s_can_end : Stmt := topS 2
abbrev N_can_end : List Str := ["owners", "chosen", "parallel", "low", "more", "here", "rest", "later", "above", "places", "needed", "kept", "spare", "number", "free", "moved", "count", "place", "task"]
theorem sc_can_end : FnScope N_can_end ["owners", "chosen", "parallel"] (defScope s_can_end) := ⟨rfl, rfl, rfl, by decide +kernel, rfl, by decide +kernel, by decide +kernel⟩
def g_can_end : Sd := (sSeq (sSet 3 (gBin fdivD (gC (.int 16)) (gVar 2)))
  (sSeq (sSet 4 (gBin subD (gC (.int 16)) (gBin mulD (gVar 3) (gVar 2))))
  (sSeq (sOwn 5 (gLc [13] (gRng1 (gCons (gVar 2) gNil)) (gTN 13) gTrue (gApp lenF (gCons (gLc [18] (gSeq (gVar 1)) (gTN 18) (gTst (gBin eqD (gVar 18) (gVar 13))) (gVar 18)) gNil))))
  (sSeq (sSet 6 (gSl (gVar 0) (gPart (gApp lenF (gCons (gVar 1) gNil))) gNoP))
  (sSeq (sOwn 7 (gLc [13] (gRng1 (gCons (gVar 2) gNil)) (gTN 13) gTrue (gApp lenF (gCons (gLc [18] (gSeq (gVar 6)) (gTN 18) (gTst (gBin eqD (gVar 18) (gVar 13))) (gVar 18)) gNil))))
  (sSeq (sOwn 8 (gLc [16] (gSeq (gFrz 5)) (gTN 16) gTrue (gApp maxF (gCons (gC (.int 0)) (gCons (gBin subD (gVar 16) (gVar 3)) gNil)))))
  (sSeq (sIf (gOr (gTst (gBin gtD (gApp max1F (gCons (gFrz 8) gNil)) (gC (.int 1)))) (gTst (gBin gtD (gApp sumF (gCons (gFrz 8) gNil)) (gVar 4)))) (sRet (gC .none)) sNext)
  (sSeq (sSet 9 (gApp lenF (gCons (gVar 6) gNil)))
  (sSeq (sSet 10 (gApp sumF (gCons (gLc [16] (gSeq (gFrz 5)) (gTN 16) gTrue (gApp maxF (gCons (gC (.int 0)) (gCons (gBin subD (gVar 3) (gVar 16)) gNil)))) gNil)))
  (sSeq (sIf (gTst (gBin gtD (gVar 10) (gVar 9))) (sRet (gC .none)) sNext)
  (sSeq (sSet 11 (gC (.int 0)))
  (sSeq (sSet 12 (gBin subD (gVar 4) (gApp sumF (gCons (gFrz 8) gNil))))
  (sSeq (sFor (gRng1 (gCons (gVar 2) gNil)) (gTN 13)
  (sSeq (sSet 14 (gBin subD (gVar 3) (gIxB 5 (gVar 13))))
  (sSeq (sSet 11 (gBin addD (gVar 11) (gApp maxF (gCons (gC (.int 0)) (gCons (gApp minF (gCons (gIxB 7 (gVar 13)) (gCons (gVar 14) gNil))) gNil)))))
  (sIf (gAnd (gTst (gBin gtD (gVar 12) (gC (.int 0)))) (gAnd (gTst (gBin leD (gIxB 5 (gVar 13)) (gVar 3))) (gTst (gBin gtD (gIxB 7 (gVar 13)) (gVar 14))))) (sSeq (sSet 12 (gBin subD (gVar 12) (gC (.int 1))))
  (sSet 11 (gBin addD (gVar 11) (gC (.int 1))))) sNext))))
  (sSeq (sSet 15 (gApp lenF (gCons (gLc [17, 18] (gEnum (gCons (gVar 1) gNil)) (gTTup 2 (gTCons (gTN 17) (gTCons (gTN 18) gTNil))) (gTst (gBin neD (gBin ixD (gVar 0) (gVar 17)) (gVar 18))) (gVar 17)) gNil)))
  (sRet (gBin subD (gBin addD (gVar 15) (gVar 9)) (gVar 11)))))))))))))))))
def f_can_end : List D → Option D := runV 19 g_can_end
abbrev s_owners_for : Stmt := topS 3
abbrev N_owners_for : List Str := ["owners", "parallel", "fewest", "chosen", "place", "task"]
theorem sc_owners_for : FnScope N_owners_for ["owners", "parallel"] (defScope s_owners_for) := ⟨rfl, rfl, rfl, by decide +kernel, rfl, by decide +kernel, by decide +kernel⟩
def g_owners_for : Sd := (sSeq (sSet 2 (gApp f_can_end (gCons (gVar 0) (gCons (gApp mkTup gNil) (gCons (gVar 1) gNil)))))
  (sSeq (sSet 3 (gApp mkTup gNil))
  (sSeq (sFor (gRng1 (gCons (gC (.int 16)) gNil)) (gTN 4)
  (sSeq (sSet 5 (gC (.int 0)))
  (sSeq (whileD (gTst (gBin neD (gApp f_can_end (gCons (gVar 0) (gCons (gBin addD (gVar 3) (gApp mkTup (gCons (gVar 5) gNil))) (gCons (gVar 1) gNil)))) (gVar 2))) (sSet 5 (gBin addD (gVar 5) (gC (.int 1)))) 1000000)
  (sSet 3 (gBin addD (gVar 3) (gApp mkTup (gCons (gVar 5) gNil)))))))
  (sRet (gVar 3)))))
def f_owners_for : List D → Option D := runV 6 g_owners_for
abbrev s_law : Stmt := topS 13
abbrev N_law : List Str := ["script", "state", "many", "parallel", "owners", "due", "place", "fewest", "ways", "told", "counts", "number", "group", "task"]
theorem sc_law : FnScope N_law ["script"] (defScope s_law) := ⟨rfl, rfl, rfl, by decide +kernel, rfl, by decide +kernel, by decide +kernel⟩
def g_law : Sd := (sSeq (sOwn 1 (gApp f__law_start (gCons (gApp f__law_cell (gCons (gVar 0) (gCons (gC (.int 0)) gNil))) (gCons (gC (.int 0)) gNil))))
  (sSeq (sSet 2 (gBin addD (gC (.int 1)) (gCallIO 1 f__law_digit (gCons (gC (.int 4)) gNil))))
  (sSeq (sSet 3 (gBin addD (gC (.int 1)) (gCallIO 1 f__law_digit (gCons (gC (.int 4)) gNil))))
  (sSeq (sSet 4 (gApp tupF (gCons (gLc [12] (gRng1 (gCons (gC (.int 16)) gNil)) (gTN 12) gTrue (gCallIO 1 f__law_digit (gCons (gVar 2) gNil))) gNil)))
  (sSeq (sIf (gTst (gBin eqD (gCallIO 1 f__law_digit (gCons (gC (.int 3)) gNil)) (gC (.int 0)))) (sSet 4 (gApp f_even_owners (gCons (gVar 2) gNil))) sNext)
  (sSeq (sSet 5 (gApp mkLst gNil))
  (sSeq (sFor (gRng1 (gCons (gC (.int 16)) gNil)) (gTN 6)
  (sSeq (sSet 7 (gApp f__law_fewest (gCons (gVar 4) (gCons (gVar 5) (gCons (gVar 3) gNil)))))
  (sSeq (sOwn 8 (gLc [13] (gRng1 (gCons (gVar 3) gNil)) (gTN 13) (gTst (gBin eqD (gApp f__law_fewest (gCons (gVar 4) (gCons (gBin addD (gVar 5) (gApp mkLst (gCons (gVar 13) gNil))) (gCons (gVar 3) gNil)))) (gVar 7))) (gVar 13)))
  (sSet 5 (gBin addD (gVar 5) (gSl (gFrz 8) gNoP (gPart (gC (.int 1)))))))))
  (sSeq (sSet 9 (gApp f_owners_for (gCons (gVar 4) (gCons (gVar 3) gNil))))
  (sSeq (sIf (gOr (gNot (gTru (gApp (isiF "tuple") (gCons (gVar 9) gNil)))) (gOr (gTst (gBin neD (gApp lstF (gCons (gVar 9) gNil)) (gVar 5))) (gTst (gBin neD (gApp f_owners_for (gCons (gVar 9) (gCons (gVar 3) gNil))) (gVar 9))))) (sRet (gC (.bool false))) sNext)
  (sSeq (sOwn 10 (gLc [11] (gRng1 (gCons (gVar 3) gNil)) (gTN 11) gTrue (gApp lenF (gCons (gLc [13] (gSeq (gVar 9)) (gTN 13) (gTst (gBin eqD (gVar 13) (gVar 11))) (gVar 13)) gNil))))
  (sSeq (sIf (gOr (gTst (gBin gtD (gBin subD (gApp max1F (gCons (gFrz 10) gNil)) (gApp min1F (gCons (gFrz 10) gNil))) (gC (.int 1)))) (gTst (gBin neD (gApp sumF (gCons (gFrz 10) gNil)) (gC (.int 16))))) (sRet (gC (.bool false))) sNext)
  (sRet (gOrV (gBin neD (gVar 2) (gVar 3)) (gOrV (gBin neD (gVar 4) (gApp f_even_owners (gCons (gVar 2) gNil))) (gBin eqD (gVar 9) (gVar 4))))))))))))))))
def f_law : List D → Option D := runV 14 g_law
structure Txt (K : PySem.W.Frag) (mg : Str → Option Value) where
  a__law_cell : Addr
  d__law_cell : FuncData
  F__law_cell : Fun K "_law_cell" "_law_cell" s__law_cell a__law_cell d__law_cell
  m__law_cell : mg "_law_cell" = some (.ref a__law_cell)
  a__law_digit : Addr
  d__law_digit : FuncData
  F__law_digit : Fun K "_law_digit" "_law_digit" s__law_digit a__law_digit d__law_digit
  m__law_digit : mg "_law_digit" = some (.ref a__law_digit)
  a__law_choose : Addr
  d__law_choose : FuncData
  F__law_choose : Fun K "_law_choose" "_law_choose" s__law_choose a__law_choose d__law_choose
  m__law_choose : mg "_law_choose" = some (.ref a__law_choose)
  a__law_fewest : Addr
  d__law_fewest : FuncData
  F__law_fewest : Fun K "_law_fewest" "_law_fewest" s__law_fewest a__law_fewest d__law_fewest
  m__law_fewest : mg "_law_fewest" = some (.ref a__law_fewest)
  a__law_start : Addr
  d__law_start : FuncData
  F__law_start : Fun K "_law_start" "_law_start" s__law_start a__law_start d__law_start
  m__law_start : mg "_law_start" = some (.ref a__law_start)
  a_even_owners : Addr
  d_even_owners : FuncData
  F_even_owners : Fun K "even_owners" "even_owners" s_even_owners a_even_owners d_even_owners
  m_even_owners : mg "even_owners" = some (.ref a_even_owners)
  a_can_end : Addr
  d_can_end : FuncData
  F_can_end : Fun K "can_end" "can_end" s_can_end a_can_end d_can_end
  m_can_end : mg "can_end" = some (.ref a_can_end)
  a_owners_for : Addr
  d_owners_for : FuncData
  F_owners_for : Fun K "owners_for" "owners_for" s_owners_for a_owners_for d_owners_for
  m_owners_for : mg "owners_for" = some (.ref a_owners_for)
  a_law : Addr
  d_law : FuncData
  F_law : Fun K "law" "law" s_law a_law d_law
  m_law : mg "law" = some (.ref a_law)
  z_bool : mg "bool" = none
  z_enumerate : mg "enumerate" = none
  z_int : mg "int" = none
  z_isinstance : mg "isinstance" = none
  z_len : mg "len" = none
  z_list : mg "list" = none
  z_max : mg "max" = none
  z_min : mg "min" = none
  z_range : mg "range" = none
  z_sum : mg "sum" = none
  z_tuple : mg "tuple" = none
  c_GROUPS : ∃ t, mg "GROUPS" = some (.int 16 t)
section
variable {P : Program} {w : World} {K : PySem.W.Frag} {mg : Str → Option Value} {base : Heap} (T : Txt K mg)
theorem bd__law_cell : Binds K T.d__law_cell ["script", "k"] [] := T.F__law_cell.binds (ps := ["script", "k"]) fun _ _ _ _ _ _ us hl => match us, hl with | [_, _], _ => rfl
theorem ok__law_cell : FnOk P w K mg base CX0 1 T.a__law_cell T.d__law_cell ["script", "k"] (spV ⟨K, P, w⟩ 2 f__law_cell) := fn_V (N := N__law_cell) (g := g__law_cell) T.F__law_cell sc__law_cell fun cdv A outer s H E hr =>
  (dss_cons (ds_if (dt_cmp (op_ltD hr.units) (dv 1) (de_callB call_lenD (by rfl) T.z_len bb_len (da_cs (dv 0) da_nl)) (nomark _)) (dss_one (ds_ret (de_ix ix_D (dv 0) (dv 1) (fun _ _ => rfl)))) dss_nil)
    (dss_one (ds_ret de_int)))
theorem bd__law_digit : Binds K T.d__law_digit ["state", "many"] [] := T.F__law_digit.binds (ps := ["state", "many"]) fun _ _ _ _ _ _ us hl => match us, hl with | [_, _], _ => rfl
theorem ok__law_digit : FnOk P w K mg base CX0 1 T.a__law_digit T.d__law_digit ["state", "many"] (spIO ⟨K, P, w⟩ 2 f__law_digit) := fn_IO (N := N__law_digit) (g := g__law_digit) T.F__law_digit sc__law_digit (by decide) fun cdv A outer s H E hr =>
  (dss_cons (db_setIx 0 (de_bin op_modD (de_callTy call_intD (by rfl) T.z_int bt_int (da_cs (de_bin op_addD (de_bin op_mulS (db_ix 0 de_int) de_int) de_int) da_nl)) de_int) de_int)
    (dss_one (ds_ret (de_bin op_modD (de_callTy call_intD (by rfl) T.z_int bt_int (da_cs (de_bin op_fdivD (db_ix 0 de_int) de_int) da_nl)) (dv 1)))))
theorem bd__law_choose : Binds K T.d__law_choose ["parallel", "many"] [] := T.F__law_choose.binds (ps := ["parallel", "many"]) fun _ _ _ _ _ _ us hl => match us, hl with | [_, _], _ => rfl
theorem ok__law_choose : FnOk P w K mg base CX0 1 T.a__law_choose T.d__law_choose ["parallel", "many"] (spV ⟨K, P, w⟩ 2 f__law_choose) := fn_V (N := N__law_choose) (g := g__law_choose) T.F__law_choose sc__law_choose fun cdv A outer s H E hr =>
  (dss_cons (ds_own (i := 2) sc__law_choose.nd rfl (.inl rfl) (df_lst da_nl))
    (dss_cons (ds_for PassesOwn.never rfl (di_rng1 (by rfl) T.z_range (da_cs de_int da_nl)) (dg_name (i := 3) sc__law_choose.nd rfl (by first | exact .inr rfl | exact .inl rfl)) (dss_cons (ds_lcO (i := 4) (ps_setLc (i := 4) (own := [("task", 5)]) (by rfl) sc__law_choose.nd rfl rfl (sw_true rfl rfl rfl (by decide +kernel)) (di_rng1 (by rfl) T.z_range (da_cs (dv 0) da_nl)) (blkOk_by (own := [("task", 5)]) (N := N__law_choose) (sc := defScope s__law_choose) (by decide +kernel)) (fun _ _ _ _ _ => (dg_name (i := 5) sc__law_choose.nd rfl (by first | exact .inl rfl | exact .inr rfl))) (fun _ _ _ _ _ => (dts_one (dt_cmp (op_eqD' hr.units) (de_bin op_modD (de_bin op_fdivD (de_callTy call_intD (by rfl) T.z_int bt_int (da_cs (dv 3) da_nl)) (de_ix ix_D (de_tup (da_cs de_int (da_cs de_int (da_cs de_int (da_cs de_int da_nl))))) (dv 5) (fun _ _ => rfl))) de_int) de_int (nomark _)))) (fun _ _ _ _ _ => (dv 5))))
    (dss_one (ds_if (dt_bool (dt_and (dt_cmp (op_eqD' hr.units) (db_call 4 call_lenD (by rfl) T.z_len bb_len) (dv 1) (nomark _)) (dt_and1 (dt_cmp (op_ltD hr.units) (dv 3) (de_ix ix_D (de_tup (da_cs de_int (da_cs de_int (da_cs de_int (da_cs de_int da_nl))))) (de_bin op_subD (dv 0) de_int) (fun _ _ => rfl)) (nomark _))))) (dss_one (ds_app 2 (pe_bm PySem.F.plainAttrs_list PySem.F.slot_list_append PySem.F.type_list_append mt_append (pv 2) (pa_cons (dz 4) pa_nil)))) dss_nil))))
    (dss_one (ds_ret (dz 2)))))
theorem bd__law_fewest : Binds K T.d__law_fewest ["owners", "chosen", "parallel"] [] := T.F__law_fewest.binds (ps := ["owners", "chosen", "parallel"]) fun _ _ _ _ _ _ us hl => match us, hl with | [_, _, _], _ => rfl
theorem ok__law_fewest : FnOk P w K mg base CX0 2 T.a__law_fewest T.d__law_fewest ["owners", "chosen", "parallel"] (spV ⟨K, P, w⟩ 3 f__law_fewest) := fn_V (N := N__law_fewest) (g := g__law_fewest) T.F__law_fewest sc__law_fewest fun cdv A outer s H E hr =>
  (dss_cons (ds_set (i := 3) sc__law_fewest.nd rfl (.inl rfl) (de_bin op_fdivD de_int (dv 2)))
    (dss_cons (ds_set (i := 4) sc__law_fewest.nd rfl (.inl rfl) de_non)
    (dss_cons (ds_for PassesOwn.never rfl (di_seq (de_call (ok__law_choose T) (hr.mono (by decide)) (by rfl) T.m__law_choose T.F__law_choose.kp (bd__law_choose T) (by rfl) (da_cs (dv 2) (da_cs (de_bin op_subD de_int (de_bin op_mulD (dv 3) (dv 2))) da_nl)) (len_cons (len_cons len_nil)))) (dg_name (i := 5) sc__law_fewest.nd rfl (.inl rfl)) (dss_cons (ds_set (i := 6) sc__law_fewest.nd rfl (.inl rfl) de_int)
    (dss_cons (ds_set (i := 7) sc__law_fewest.nd rfl (.inl rfl) de_bl)
    (dss_cons (ds_for PassesOwn.never rfl (di_rng1 (by rfl) T.z_range (da_cs (dv 2) da_nl)) (dg_name (i := 8) sc__law_fewest.nd rfl (by first | exact .inr rfl | exact .inl rfl)) (dss_cons (ds_set (i := 9) sc__law_fewest.nd rfl (.inl rfl) (de_bin op_subD (de_bin op_addD (dv 3) (de_callTy call_intD (by rfl) T.z_int bt_int (da_cs (de_cmp (op_inD' (in65 hr)) (dv 8) (dv 5) (by rfl)) da_nl))) (de_callB call_lenD (by rfl) T.z_len bb_len (da_cs (df_de (df_lc (pe_lc (own := [("number", 12)]) (by rfl) sc__law_fewest.nd (di_seq (dv 1)) (blkOk_by (own := [("number", 12)]) (N := N__law_fewest) (sc := defScope s__law_fewest) (by decide +kernel)) (fun _ _ _ _ _ => (dg_name (i := 12) sc__law_fewest.nd rfl (by first | exact .inl rfl | exact .inr rfl))) (fun _ _ _ _ _ => (dts_one (dt_cmp (op_eqD' hr.units) (dv 12) (dv 8) (nomark _)))) (fun _ _ _ _ _ => (dv 12))))) da_nl))))
    (dss_cons (ds_set (i := 10) sc__law_fewest.nd rfl (.inl rfl) (de_callB call_lenD (by rfl) T.z_len bb_len (da_cs (df_de (df_lc (pe_lc (own := [("number", 12)]) (by rfl) sc__law_fewest.nd (di_seq (de_slice (dv 0) (do_some (de_callB call_lenD (by rfl) T.z_len bb_len (da_cs (dv 1) da_nl))) do_none)) (blkOk_by (own := [("number", 12)]) (N := N__law_fewest) (sc := defScope s__law_fewest) (by decide +kernel)) (fun _ _ _ _ _ => (dg_name (i := 12) sc__law_fewest.nd rfl (by first | exact .inl rfl | exact .inr rfl))) (fun _ _ _ _ _ => (dts_one (dt_cmp (op_eqD' hr.units) (dv 12) (dv 8) (nomark _)))) (fun _ _ _ _ _ => (dv 12))))) da_nl)))
    (dss_cons (ds_set (i := 7) sc__law_fewest.nd rfl (.inl rfl) (de_and (dv 7) (de_one (de_cmp op_geD (dv 9) de_int (nomark _)))))
    (dss_one (ds_set (i := 6) sc__law_fewest.nd rfl (.inl rfl) (de_bin op_addD (dv 6) (de_callB (call_minD rfl) (by rfl) T.z_min bb_min (da_cs (dv 9) (da_cs (dv 10) da_nl))))))))))
    (dss_cons (ds_set (i := 11) sc__law_fewest.nd rfl (.inl rfl) (de_bin op_subD (de_bin op_subD (de_bin op_addD (de_callB call_lenD (by rfl) T.z_len bb_len (da_cs (df_de (df_lc (pe_lc (own := [("k", 13)]) (by rfl) sc__law_fewest.nd (di_rng1 (by rfl) T.z_range (da_cs (de_callB call_lenD (by rfl) T.z_len bb_len (da_cs (dv 1) da_nl)) da_nl)) (blkOk_by (own := [("k", 13)]) (N := N__law_fewest) (sc := defScope s__law_fewest) (by decide +kernel)) (fun _ _ _ _ _ => (dg_name (i := 13) sc__law_fewest.nd rfl (by first | exact .inl rfl | exact .inr rfl))) (fun _ _ _ _ _ => (dts_one (dt_cmp (op_neD' hr.units) (de_ix ix_D (dv 0) (dv 13) (fun _ _ => rfl)) (de_ix ix_D (dv 1) (dv 13) (fun _ _ => rfl)) (nomark _)))) (fun _ _ _ _ _ => (dv 13))))) da_nl)) de_int) (de_callB call_lenD (by rfl) T.z_len bb_len (da_cs (dv 1) da_nl))) (dv 6)))
    (dss_one (ds_if (dt_bool (dt_and (dt_tru (dv 7)) (dt_and1 (dt_bool (dt_or (dt_cmp op_isD (dv 4) de_non (nomark _)) (dt_or1 (dt_cmp (op_ltD hr.units) (dv 11) (dv 4) (nomark _)))))))) (dss_one (ds_set (i := 4) sc__law_fewest.nd rfl (.inl rfl) (dv 11))) dss_nil)))))))
    (dss_one (ds_ret (dv 4))))))
theorem bd__law_start : Binds K T.d__law_start ["cell", "k"] [] := T.F__law_start.binds (ps := ["cell", "k"]) fun _ _ _ _ _ _ us hl => match us, hl with | [_, _], _ => rfl
theorem ok__law_start : FnOk P w K mg base CX0 1 T.a__law_start T.d__law_start ["cell", "k"] (spF ⟨K, P, w⟩ 2 f__law_start) := fn_F (N := N__law_start) (g := g__law_start) T.F__law_start sc__law_start fun cdv A outer s H E hr =>
  (dss_one (ds_rof (df_lst (da_cs (de_bin op_modD (de_callTy call_intD (by rfl) T.z_int bt_int (da_cs (de_bin op_addD (de_bin op_mulS (dv 0) de_int) (de_bin op_mulS (de_bin op_addD (dv 1) de_int) de_int)) da_nl)) de_int) da_nl))))
theorem bd_even_owners : Binds K T.d_even_owners ["parallel"] [] := T.F_even_owners.binds (ps := ["parallel"]) fun _ _ _ _ _ _ us hl => match us, hl with | [_], _ => rfl
theorem ok_even_owners : FnOk P w K mg base CX0 1 T.a_even_owners T.d_even_owners ["parallel"] (spV ⟨K, P, w⟩ 1 f_even_owners) := fn_V (N := N_even_owners) (g := g_even_owners) T.F_even_owners sc_even_owners fun cdv A outer s H E hr =>
  (dss_one (ds_ret (de_callTy call_tupD (by rfl) T.z_tuple bt_tuple (da_cs (df_de (df_lc (pe_lc (own := [("group", 1)]) (by rfl) sc_even_owners.nd (di_rng1 (by rfl) T.z_range (da_cs de_int da_nl)) (blkOk_by (own := [("group", 1)]) (N := N_even_owners) (sc := defScope s_even_owners) (by decide +kernel)) (fun _ _ _ _ _ => (dg_name (i := 1) sc_even_owners.nd rfl (by first | exact .inl rfl | exact .inr rfl))) (fun _ _ _ _ _ => dts_nil) (fun _ _ _ _ _ => (de_bin op_fdivD (de_bin op_mulD (dv 1) (dv 0)) de_int))))) da_nl))))
theorem bd_can_end : Binds K T.d_can_end ["owners", "chosen", "parallel"] [] := T.F_can_end.binds (ps := ["owners", "chosen", "parallel"]) fun _ _ _ _ _ _ us hl => match us, hl with | [_, _, _], _ => rfl
theorem ok_can_end : FnOk P w K mg base CX0 1 T.a_can_end T.d_can_end ["owners", "chosen", "parallel"] (spV ⟨K, P, w⟩ 3 f_can_end) := fn_V (N := N_can_end) (g := g_can_end) T.F_can_end sc_can_end fun cdv A outer s H E hr =>
  (dss_cons (ds_set (i := 3) sc_can_end.nd rfl (by first | exact .inr rfl | exact .inl rfl) (de_bin op_fdivD (de_glob (by rfl) T.c_GROUPS) (dv 2)))
    (dss_cons (ds_set (i := 4) sc_can_end.nd rfl (.inl rfl) (de_bin op_subD (de_glob (by rfl) T.c_GROUPS) (de_bin op_mulD (dv 3) (dv 2))))
    (dss_cons (ds_lcO (i := 5) (ps_setLc (i := 5) (own := [("number", 13)]) (by rfl) sc_can_end.nd rfl rfl (sw_true rfl rfl rfl (by decide +kernel)) (di_rng1 (by rfl) T.z_range (da_cs (dv 2) da_nl)) (blkOk_by (own := [("number", 13)]) (N := N_can_end) (sc := defScope s_can_end) (by decide +kernel)) (fun _ _ _ _ _ => (dg_name (i := 13) sc_can_end.nd rfl (by first | exact .inl rfl | exact .inr rfl))) (fun _ _ _ _ _ => dts_nil) (fun _ _ _ _ _ => (de_callB call_lenD (by rfl) T.z_len bb_len (da_cs (df_de (df_lc (pe_lc (own := [("task", 18)]) (by rfl) sc_can_end.nd (di_seq (dv 1)) (blkOk_by (own := [("task", 18)]) (by first | rfl | kernel_rfl)) (fun _ _ _ _ _ => (dg_name (i := 18) sc_can_end.nd rfl (by first | exact .inl rfl | exact .inr rfl))) (fun _ _ _ _ _ => (dts_one (dt_cmp (op_eqD' hr.units) (dv 18) (dv 13) (nomark _)))) (fun _ _ _ _ _ => (dv 18))))) da_nl)))))
    (dss_cons (ds_set (i := 6) sc_can_end.nd rfl (by first | exact .inr rfl | exact .inl rfl) (de_slice (dv 0) (do_some (de_callB call_lenD (by rfl) T.z_len bb_len (da_cs (dv 1) da_nl))) do_none))
    (dss_cons (ds_lcO (i := 7) (ps_setLc (i := 7) (own := [("number", 13)]) (by rfl) sc_can_end.nd rfl rfl (sw_true rfl rfl rfl (by decide +kernel)) (di_rng1 (by rfl) T.z_range (da_cs (dv 2) da_nl)) (blkOk_by (own := [("number", 13)]) (N := N_can_end) (sc := defScope s_can_end) (by decide +kernel)) (fun _ _ _ _ _ => (dg_name (i := 13) sc_can_end.nd rfl (by first | exact .inl rfl | exact .inr rfl))) (fun _ _ _ _ _ => dts_nil) (fun _ _ _ _ _ => (de_callB call_lenD (by rfl) T.z_len bb_len (da_cs (df_de (df_lc (pe_lc (own := [("task", 18)]) (by rfl) sc_can_end.nd (di_seq (dv 6)) (blkOk_by (own := [("task", 18)]) (by first | rfl | kernel_rfl)) (fun _ _ _ _ _ => (dg_name (i := 18) sc_can_end.nd rfl (by first | exact .inl rfl | exact .inr rfl))) (fun _ _ _ _ _ => (dts_one (dt_cmp (op_eqD' hr.units) (dv 18) (dv 13) (nomark _)))) (fun _ _ _ _ _ => (dv 18))))) da_nl)))))
    (dss_cons (ds_lcO (i := 8) (ps_setLc (i := 8) (own := [("count", 16)]) (by rfl) sc_can_end.nd rfl rfl (sw_true rfl rfl rfl (by decide +kernel)) (di_seq (dz 5)) (blkOk_by (own := [("count", 16)]) (N := N_can_end) (sc := defScope s_can_end) (by decide +kernel)) (fun _ _ _ _ _ => (dg_name (i := 16) sc_can_end.nd rfl (by first | exact .inl rfl | exact .inr rfl))) (fun _ _ _ _ _ => dts_nil) (fun _ _ _ _ _ => (de_callB (call_maxD rfl) (by rfl) T.z_max bb_max (da_cs de_int (da_cs (de_bin op_subD (dv 16) (dv 3)) da_nl))))))
    (dss_cons (ds_if (dt_bool (dt_or (dt_cmp op_gtD (de_callB (call_max1 rfl) (by rfl) T.z_max bb_max (da_cs (dz 8) da_nl)) de_int (nomark _)) (dt_or1 (dt_cmp op_gtD (de_callB (call_sumD rfl) (by rfl) T.z_sum bb_sum (da_cs (dz 8) da_nl)) (dv 4) (nomark _))))) (dss_one (ds_ret de_non)) dss_nil)
    (dss_cons (ds_set (i := 9) sc_can_end.nd rfl (.inl rfl) (de_callB call_lenD (by rfl) T.z_len bb_len (da_cs (dv 6) da_nl)))
    (dss_cons (ds_set (i := 10) sc_can_end.nd rfl (.inl rfl) (de_callB (call_sumD rfl) (by rfl) T.z_sum bb_sum (da_cs (df_de (df_lc (pe_lc (own := [("count", 16)]) (by rfl) sc_can_end.nd (di_seq (dz 5)) (blkOk_by (own := [("count", 16)]) (N := N_can_end) (sc := defScope s_can_end) (by decide +kernel)) (fun _ _ _ _ _ => (dg_name (i := 16) sc_can_end.nd rfl (by first | exact .inl rfl | exact .inr rfl))) (fun _ _ _ _ _ => dts_nil) (fun _ _ _ _ _ => (de_callB (call_maxD rfl) (by rfl) T.z_max bb_max (da_cs de_int (da_cs (de_bin op_subD (dv 3) (dv 16)) da_nl))))))) da_nl)))
    (dss_cons (ds_if (dt_cmp op_gtD (dv 10) (dv 9) (nomark _)) (dss_one (ds_ret de_non)) dss_nil)
    (dss_cons (ds_set (i := 11) sc_can_end.nd rfl (.inl rfl) de_int)
    (dss_cons (ds_set (i := 12) sc_can_end.nd rfl (.inl rfl) (de_bin op_subD (dv 4) (de_callB (call_sumD rfl) (by rfl) T.z_sum bb_sum (da_cs (dz 8) da_nl))))
    (dss_cons (ds_for PassesOwn.never rfl (di_rng1 (by rfl) T.z_range (da_cs (dv 2) da_nl)) (dg_name (i := 13) sc_can_end.nd rfl (by first | exact .inr rfl | exact .inl rfl)) (dss_cons (ds_set (i := 14) sc_can_end.nd rfl (.inl rfl) (de_bin op_subD (dv 3) (db_ix 5 (dv 13))))
    (dss_cons (ds_set (i := 11) sc_can_end.nd rfl (.inl rfl) (de_bin op_addD (dv 11) (de_callB (call_maxD rfl) (by rfl) T.z_max bb_max (da_cs de_int (da_cs (de_callB (call_minD rfl) (by rfl) T.z_min bb_min (da_cs (db_ix 7 (dv 13)) (da_cs (dv 14) da_nl))) da_nl)))))
    (dss_one (ds_if (dt_bool (dt_and (dt_cmp op_gtD (dv 12) de_int (nomark _)) (dt_and (dt_cmp op_leD (db_ix 5 (dv 13)) (dv 3) (nomark _)) (dt_and1 (dt_cmp op_gtD (db_ix 7 (dv 13)) (dv 14) (nomark _)))))) (dss_cons (ds_set (i := 12) sc_can_end.nd rfl (.inl rfl) (de_bin op_subD (dv 12) de_int))
    (dss_one (ds_set (i := 11) sc_can_end.nd rfl (.inl rfl) (de_bin op_addD (dv 11) de_int)))) dss_nil)))))
    (dss_cons (ds_set (i := 15) sc_can_end.nd rfl (.inl rfl) (de_callB call_lenD (by rfl) T.z_len bb_len (da_cs (df_de (df_lc (pe_lc (own := [("place", 17), ("task", 18)]) (by rfl) sc_can_end.nd (di_enum (by rfl) T.z_enumerate (da_cs (dv 1) da_nl)) (blkOk_by (own := [("place", 17), ("task", 18)]) (N := N_can_end) (sc := defScope s_can_end) (by decide +kernel)) (fun _ _ _ _ _ => (dg_tup rfl (dgs_cons (dg_name (i := 17) sc_can_end.nd rfl (by first | exact .inl rfl | exact .inr rfl)) (dgs_cons (dg_name (i := 18) sc_can_end.nd rfl (by first | exact .inl rfl | exact .inr rfl)) dgs_nil)))) (fun _ _ _ _ _ => (dts_one (dt_cmp (op_neD' hr.units) (de_ix ix_D (dv 0) (dv 17) (fun _ _ => rfl)) (dv 18) (nomark _)))) (fun _ _ _ _ _ => (dv 17))))) da_nl)))
    (dss_one (ds_ret (de_bin op_subD (de_bin op_addD (dv 15) (dv 9)) (dv 11))))))))))))))))))
theorem bd_owners_for : Binds K T.d_owners_for ["owners", "parallel"] [] := T.F_owners_for.binds (ps := ["owners", "parallel"]) fun _ _ _ _ _ _ us hl => match us, hl with | [_, _], _ => rfl
theorem ok_owners_for : FnOk P w K mg base CX0 2 T.a_owners_for T.d_owners_for ["owners", "parallel"] (spV ⟨K, P, w⟩ 2 f_owners_for) := fn_V (N := N_owners_for) (g := g_owners_for) T.F_owners_for sc_owners_for fun cdv A outer s H E hr =>
  (dss_cons (ds_set (i := 2) sc_owners_for.nd rfl (.inl rfl) (de_call (ok_can_end T) (hr.mono (by decide)) (by rfl) T.m_can_end T.F_can_end.kp (bd_can_end T) (by rfl) (da_cs (dv 0) (da_cs (de_tup da_nl) (da_cs (dv 1) da_nl))) (len_cons (len_cons (len_cons len_nil)))))
    (dss_cons (ds_set (i := 3) sc_owners_for.nd rfl (.inl rfl) (de_tup da_nl))
    (dss_cons (ds_for PassesOwn.never rfl (di_rng1 (by rfl) T.z_range (da_cs (de_glob (by rfl) T.c_GROUPS) da_nl)) (dg_name (i := 4) sc_owners_for.nd rfl (.inl rfl)) (dss_cons (ds_set (i := 5) sc_owners_for.nd rfl (.inl rfl) de_int)
    (dss_cons (ds_while 1000000 PassesOwn.never (dt_cmp (op_neD' hr.units) (de_call (ok_can_end T) (hr.mono (by decide)) (by rfl) T.m_can_end T.F_can_end.kp (bd_can_end T) (by rfl) (da_cs (dv 0) (da_cs (de_bin op_addD (dv 3) (de_tup (da_cs (dv 5) da_nl))) (da_cs (dv 1) da_nl))) (len_cons (len_cons (len_cons len_nil)))) (dv 2) (nomark _)) (dss_one (ds_set (i := 5) sc_owners_for.nd rfl (.inl rfl) (de_bin op_addD (dv 5) de_int))))
    (dss_one (ds_set (i := 3) sc_owners_for.nd rfl (.inl rfl) (de_bin op_addD (dv 3) (de_tup (da_cs (dv 5) da_nl))))))))
    (dss_one (ds_ret (dv 3))))))
theorem bd_law : Binds K T.d_law ["script"] [] := T.F_law.binds (ps := ["script"]) fun _ _ _ _ _ _ us hl => match us, hl with | [_], _ => rfl
theorem ok_law : FnOk P w K mg base CX0 3 T.a_law T.d_law ["script"] (spV ⟨K, P, w⟩ 1 f_law) := fn_V (N := N_law) (g := g_law) T.F_law sc_law fun cdv A outer s H E hr =>
  (dss_cons (ds_own (i := 1) sc_law.nd rfl (by first | exact .inr rfl | exact .inl rfl) (df_call (ok__law_start T) (hr.mono (by decide)) (by rfl) T.m__law_start T.F__law_start.kp (bd__law_start T) (by rfl) (da_cs (de_call (ok__law_cell T) (hr.mono (by decide)) (by rfl) T.m__law_cell T.F__law_cell.kp (bd__law_cell T) (by rfl) (da_cs (dv 0) (da_cs de_int da_nl)) (len_cons (len_cons len_nil))) (da_cs de_int da_nl)) (len_cons (len_cons len_nil))))
    (dss_cons (ds_set (i := 2) sc_law.nd rfl (by first | exact .inr rfl | exact .inl rfl) (de_bin op_addD de_int (db_io 1 (ok__law_digit T) (hr.mono (by decide)) (by rfl) T.m__law_digit T.F__law_digit.kp (bd__law_digit T) (da_cs de_int da_nl) (len_cons len_nil))))
    (dss_cons (ds_set (i := 3) sc_law.nd rfl (by first | exact .inr rfl | exact .inl rfl) (de_bin op_addD de_int (db_io 1 (ok__law_digit T) (hr.mono (by decide)) (by rfl) T.m__law_digit T.F__law_digit.kp (bd__law_digit T) (da_cs de_int da_nl) (len_cons len_nil))))
    (dss_cons (ds_set (i := 4) sc_law.nd rfl (by first | exact .inr rfl | exact .inl rfl) (de_callTy call_tupD (by rfl) T.z_tuple bt_tuple (da_cs (df_de (df_lc (pe_lc (own := [("group", 12)]) (by rfl) sc_law.nd (di_rng1 (by rfl) T.z_range (da_cs de_int da_nl)) (blkOk_by (own := [("group", 12)]) (N := N_law) (sc := defScope s_law) (by decide +kernel)) (fun _ _ _ _ _ => (dg_name (i := 12) sc_law.nd rfl (by first | exact .inl rfl | exact .inr rfl))) (fun _ _ _ _ _ => dts_nil) (fun _ _ _ _ _ => (db_io 1 (ok__law_digit T) (hr.mono (by decide)) (by rfl) T.m__law_digit T.F__law_digit.kp (bd__law_digit T) (da_cs (dv 2) da_nl) (len_cons len_nil)))))) da_nl)))
    (dss_cons (ds_if (dt_cmp (op_eqD' hr.units) (db_io 1 (ok__law_digit T) (hr.mono (by decide)) (by rfl) T.m__law_digit T.F__law_digit.kp (bd__law_digit T) (da_cs de_int da_nl) (len_cons len_nil)) de_int (nomark _)) (dss_one (ds_set (i := 4) sc_law.nd rfl (by first | exact .inr rfl | exact .inl rfl) (de_call (ok_even_owners T) (hr.mono (by decide)) (by rfl) T.m_even_owners T.F_even_owners.kp (bd_even_owners T) (by rfl) (da_cs (dv 2) da_nl) (len_cons len_nil)))) dss_nil)
    (dss_cons (ds_set (i := 5) sc_law.nd rfl (by first | exact .inr rfl | exact .inl rfl) (df_de (df_lst da_nl)))
    (dss_cons (ds_for PassesOwn.never rfl (di_rng1 (by rfl) T.z_range (da_cs de_int da_nl)) (dg_name (i := 6) sc_law.nd rfl (.inl rfl)) (dss_cons (ds_set (i := 7) sc_law.nd rfl (by first | exact .inr rfl | exact .inl rfl) (de_call (ok__law_fewest T) (hr.mono (by decide)) (by rfl) T.m__law_fewest T.F__law_fewest.kp (bd__law_fewest T) (by rfl) (da_cs (dv 4) (da_cs (dv 5) (da_cs (dv 3) da_nl))) (len_cons (len_cons (len_cons len_nil)))))
    (dss_cons (ds_lcO (i := 8) (ps_setLc (i := 8) (own := [("task", 13)]) (by rfl) sc_law.nd rfl rfl (sw_true rfl rfl rfl (by decide +kernel)) (di_rng1 (by rfl) T.z_range (da_cs (dv 3) da_nl)) (blkOk_by (own := [("task", 13)]) (N := N_law) (sc := defScope s_law) (by decide +kernel)) (fun _ _ _ _ _ => (dg_name (i := 13) sc_law.nd rfl (by first | exact .inl rfl | exact .inr rfl))) (fun _ _ _ _ _ => (dts_one (dt_cmp (op_eqD' hr.units) (de_call (ok__law_fewest T) (hr.mono (by decide)) (by rfl) T.m__law_fewest T.F__law_fewest.kp (bd__law_fewest T) (by rfl) (da_cs (dv 4) (da_cs (de_bin op_addD (dv 5) (df_de (df_lst (da_cs (dv 13) da_nl)))) (da_cs (dv 3) da_nl))) (len_cons (len_cons (len_cons len_nil)))) (dv 7) (nomark _)))) (fun _ _ _ _ _ => (dv 13))))
    (dss_one (ds_set (i := 5) sc_law.nd rfl (by first | exact .inr rfl | exact .inl rfl) (de_bin op_addD (dv 5) (de_slice (dz 8) do_none (do_some de_int))))))))
    (dss_cons (ds_set (i := 9) sc_law.nd rfl (by first | exact .inr rfl | exact .inl rfl) (de_call (ok_owners_for T) (hr.mono (by decide)) (by rfl) T.m_owners_for T.F_owners_for.kp (bd_owners_for T) (by rfl) (da_cs (dv 4) (da_cs (dv 3) da_nl)) (len_cons (len_cons len_nil))))
    (dss_cons (ds_if (dt_bool (dt_or (dt_not (dt_tru (de_isi T.z_isinstance (by rfl) (by rfl) T.z_tuple bt_tuple (dv 9)))) (dt_or (dt_cmp (op_neD' hr.units) (df_de (df_callTy call_lstD (by rfl) T.z_list bt_list (da_cs (dv 9) da_nl))) (dv 5) (nomark _)) (dt_or1 (dt_cmp (op_neD' hr.units) (de_call (ok_owners_for T) (hr.mono (by decide)) (by rfl) T.m_owners_for T.F_owners_for.kp (bd_owners_for T) (by rfl) (da_cs (dv 9) (da_cs (dv 3) da_nl)) (len_cons (len_cons len_nil))) (dv 9) (nomark _)))))) (dss_one (ds_ret de_bl)) dss_nil)
    (dss_cons (ds_lcO (i := 10) (ps_setLc (i := 10) (own := [("number", 11)]) (by rfl) sc_law.nd rfl rfl (sw_true rfl rfl rfl (by decide +kernel)) (di_rng1 (by rfl) T.z_range (da_cs (dv 3) da_nl)) (blkOk_by (own := [("number", 11)]) (N := N_law) (sc := defScope s_law) (by decide +kernel)) (fun _ _ _ _ _ => (dg_name (i := 11) sc_law.nd rfl (by first | exact .inl rfl | exact .inr rfl))) (fun _ _ _ _ _ => dts_nil) (fun _ _ _ _ _ => (de_callB call_lenD (by rfl) T.z_len bb_len (da_cs (df_de (df_lc (pe_lc (own := [("task", 13)]) (by rfl) sc_law.nd (di_seq (dv 9)) (blkOk_by (own := [("task", 13)]) (by first | rfl | kernel_rfl)) (fun _ _ _ _ _ => (dg_name (i := 13) sc_law.nd rfl (by first | exact .inl rfl | exact .inr rfl))) (fun _ _ _ _ _ => (dts_one (dt_cmp (op_eqD' hr.units) (dv 13) (dv 11) (nomark _)))) (fun _ _ _ _ _ => (dv 13))))) da_nl)))))
    (dss_cons (ds_if (dt_bool (dt_or (dt_cmp op_gtD (de_bin op_subD (de_callB (call_max1 rfl) (by rfl) T.z_max bb_max (da_cs (dz 10) da_nl)) (de_callB (call_min1 rfl) (by rfl) T.z_min bb_min (da_cs (dz 10) da_nl))) de_int (nomark _)) (dt_or1 (dt_cmp (op_neD' hr.units) (de_callB (call_sumD rfl) (by rfl) T.z_sum bb_sum (da_cs (dz 10) da_nl)) de_int (nomark _))))) (dss_one (ds_ret de_bl)) dss_nil)
    (dss_one (ds_ret (de_or (de_cmp (op_neD' hr.units) (dv 2) (dv 3) (nomark _)) (de_or (de_cmp (op_neD' hr.units) (dv 4) (de_call (ok_even_owners T) (hr.mono (by decide)) (by rfl) T.m_even_owners T.F_even_owners.kp (bd_even_owners T) (by rfl) (da_cs (dv 2) da_nl) (len_cons len_nil)) (nomark _)) (de_one (de_cmp (op_eqD' hr.units) (dv 9) (dv 4) (nomark _))))))))))))))))))
end
end Lw
set_option maxHeartbeats 4000000
namespace Lw
open PySem Dn Dm DnSo
theorem wo_cell {ns : List Int} {k : Int} {Q : D → Prop} (hk : 0 ≤ k) (q : ∀ n : Int, Q (.int n)) : Wo (f__law_cell [.list (ns.map PyData.int), .int k]) Q := by
  unfold f__law_cell
  rw [wo_runV]
  show Ws g__law_cell [some (.val (.list (ns.map PyData.int))), some (.val (.int k))] _
  unfold g__law_cell
  simp only [backE, wipeE, wo_some, wo_none, wm_c, wm_var, wm_frz, wm_bin, wm_un, wm_tst, wm_tru, wm_truB, wm_chain, wm_and, wm_or, wm_not, wm_andV, wm_orV, wm_notV, wm_ifE, wm_nil, wm_cons, wm_app, wm_noP, wm_part, wm_sl, wm_pk, wm_io, wm_ix, wm_inB, wm_true, wm_seq, wm_rng1, wm_rng2,
  then_nx, then_ret, then_rof, then_brk, then_cnt, ws_next, ws_brk, ws_cnt, ws_seq, ws_if, ws_ret, ws_rof, ws_drop, ws_set, ws_own, ws_asg, wo_TN, wo_TNil, wo_TCons, wo_TTup, ws_ap, ws_setIx, ws_for, for_nil, turn_nx, turn_cnt, turn_brk, turn_ret, turn_rof, wm_lc, end_ret, end_nx, end_rof, end_io, ownOf_own, valOf_val, frz_val, frz_own, cOwn_own, peek_val, peek_own, by_val, by_own, canSet_none, canSet_val, canSet_own, lstOf_list,
  List.getElem?_cons_zero, List.getElem?_cons_succ, List.set_cons_zero, List.set_cons_succ, List.length_cons, List.length_nil, wo_ite, wo_bind, ↓reduceIte, and_true, true_and, and_self, Bool.false_eq_true, Bool.not_true, Bool.not_false, decide_eq_true_eq, decide_true, decide_false, oneInt_int, twoInts_int,
  add_ii, add_ll, add_tt, add_ss, sub_ii, mul_ii, mulS_ii, mod_ii, fdiv_ii, neg_i, le_ii, gt_ii, ge_ii, eqT_ii, eqT_ss, eqT_bb, eqT_nn, ltT_ii, ltT_ss, wo_eqD, wo_neD, wo_ltD, wo_inD, wo_ninD, is_n, isnt_n, is_bb, isnt_bb, isN, bOf_b, iOf_i, tru_b, tru_n, tru_i, tru_l, tru_t, seq_l, seq_t, tup_l, tup_t, lst_l, lst_t, len_l, len_t, int_i, int_b, abs_i, max_ii, min_ii, ix_li, ix_ti, cut_l, cut_t, flat_i, flat_b, flat_s, ix0, ix1, ix2, mkTup, mkLst,
  add2_ll, ws_par3, three_c, ws_grp, empty_own, lOwnD_own, wm_lcW, wm_getD, wm_ind, ix3, ix4, ix_m2, ix_m1, ix_p2, ix_p1, wm_newD, ws_setK, wm_get, wm_ixK, wm_sortN, ws_ext, dOwn_own, lOwn_own, lsD_list, step_nx, step_cnt, step_brk, step_ret, step_rof, wm_reve, rev_l, rev_t, wm_opBL, repr_l, sort_l, sum_l, wm_enum, enum_l, enum_t, enumL_nil, wm_dic, wm_kvn, wm_kvc, seq_s, mulT_si, len_s, ord_c, str_i, ty_d, k_lb, k_li, k_ls, k_tb, k_ti, k_ts, k_db, k_di, k_ds, k_lt, k_tl,
  isi_1, tyOk_n, tyOk_b, tyOk_i, tyOk_s, tyOk_l, tyOk_t, ty_n, ty_b, ty_i, ty_s, ty_l, ty_t, k_nb, k_bb, k_ib, k_sb, k_ni, k_bi, k_ii, k_si, k_ns, k_bs, k_is, k_ss, k_ll, k_tt,
  Int.reduceNeg, Int.reducePow, Int.reduceLT, Int.reduceLE, Int.reduceAdd, Int.reduceSub, Int.reduceMul, Int.reduceToNat, Nat.reduceAdd, Nat.reduceLeDiff, Nat.reduceEqDiff, Int.reduceEq, reduceCtorEq, ws_grpL, empty_ownL, wo_TLst, wg_P, wg_end, wg_then, theng_nx, wg_yield, wm_callG, wo_runG, List.nil_append]
  split
  · rename_i h
    refine wo_ix hk (by simpa using h) fun x hx => ?_
    obtain ⟨n, _, rfl⟩ := List.mem_map.mp hx
    exact q n
  · exact q _

theorem shaped_ints (ns : List Int) : SeqAt.shaped (.list (ns.map PyData.int)) = true := by
  have : ∀ ns : List Int, PyData.canLayAll0 (ns.map PyData.int) = true ∧ PyData.depthAll (ns.map PyData.int) = 0 := by
    intro ns
    induction ns with
    | nil => exact ⟨rfl, rfl⟩
    | cons x xs ih => exact ⟨by rw [List.map_cons, PyData.canLayAll0, ih.1]; rfl, by rw [List.map_cons, PyData.depthAll, ih.2]; rfl⟩
  unfold SeqAt.shaped
  rw [PyData.canLay0, PyData.depth, (this ns).1, (this ns).2]
  decide
theorem in_ints (i : Int) (ns : List Int) : inT (.int i) (.list (ns.map PyData.int)) = some (decide (i ∈ ns)) := by
  show (if SeqAt.shaped (.int i) = true ∧ SeqAt.shaped (.list (ns.map PyData.int)) = true then some ((ns.map PyData.int).any fun z => PyData.eqv z (.int i)) else none) = _
  rw [if_pos ⟨by simp [SeqAt.shaped, PyData.canLay0, PyData.depth], shaped_ints ns⟩]
  congr 1
  induction ns with
  | nil => rfl
  | cons j ns ih =>
    rw [List.map_cons, List.any_cons, ih]
    by_cases h : i = j
    · simp [h, PyData.eqv]
    · have h' : ¬ j = i := fun z => h z.symm
      simp [h, h', PyData.eqv]
theorem eq_intsL (ns : List Int) : eqT (.list (ns.map PyData.int)) (.list (ns.map PyData.int)) = some true := by
  show (if _ then _ else _) = _
  rw [if_pos ⟨shaped_ints ns, shaped_ints ns⟩, PyData.eqv]
  congr 1
  induction ns with
  | nil => rfl
  | cons j ns ih =>
    rw [List.map_cons, PyData.eqvAll, ih]
    simp [PyData.eqv]
theorem most_fold : ∀ (ns : List Int) (n : Int), n ≤ ns.foldl (fun m x => if x > m then x else m) n ∧ (∀ y ∈ ns, y ≤ ns.foldl (fun m x => if x > m then x else m) n) ∧ (ns.foldl (fun m x => if x > m then x else m) n = n ∨ ns.foldl (fun m x => if x > m then x else m) n ∈ ns)
  | [], n => ⟨Int.le_refl _, by simp, .inl rfl⟩
  | x :: ns, n => by
    obtain ⟨h1, h2, h3⟩ := most_fold ns (if x > n then x else n)
    rw [List.foldl_cons]
    have hx : x ≤ (if x > n then x else n) ∧ n ≤ (if x > n then x else n) := by split <;> omega
    refine ⟨by omega, fun y hy => ?_, ?_⟩
    · rcases List.mem_cons.mp hy with rfl | hy
      · omega
      · exact h2 y hy
    · rcases h3 with h3 | h3
      · by_cases c : x > n
        · rw [if_pos c] at h3 ⊢
          exact .inr (by rw [h3]; exact List.mem_cons_self)
        · rw [if_neg c] at h3 ⊢
          exact .inl h3
      · exact .inr (List.mem_cons_of_mem _ h3)
theorem max1_ints (n : Int) (ns : List Int) : ∃ m, max1F [.list ((n :: ns).map PyData.int)] = some (.int m) ∧ n ≤ m ∧ (∀ y ∈ ns, y ≤ m) ∧ (m = n ∨ m ∈ ns) := by
  obtain ⟨h1, h2, h3⟩ := most_fold ns n
  refine ⟨_, ?_, h1, h2, h3⟩
  show (Dn.numsOf _).bind (fun ns => (mostI ns).bind fun m => some (PyData.int m)) = _
  rw [Dn.nums_map]
  rfl

def intsT (l : List Int) : D := .tuple (l.map PyData.int)
def intsL (l : List Int) : D := .list (l.map PyData.int)
def optD : Option Int → D
  | none => .none
  | some v => .int v
theorem shaped_intsT (ns : List Int) : SeqAt.shaped (.tuple (ns.map PyData.int)) = true := by
  have : ∀ ns : List Int, PyData.canLayAll0 (ns.map PyData.int) = true ∧ PyData.depthAll (ns.map PyData.int) = 0 := by
    intro ns
    induction ns with
    | nil => exact ⟨rfl, rfl⟩
    | cons x xs ih => exact ⟨by rw [List.map_cons, PyData.canLayAll0, ih.1]; rfl, by rw [List.map_cons, PyData.depthAll, ih.2]; rfl⟩
  unfold SeqAt.shaped
  rw [PyData.canLay0, PyData.depth, (this ns).1, (this ns).2]
  decide
theorem eqvAll_ints : ∀ a b : List Int, PyData.eqvAll (a.map PyData.int) (b.map PyData.int) = decide (a = b)
  | [], [] => rfl
  | [], _ :: _ => rfl
  | _ :: _, [] => rfl
  | x :: a, y :: b => by
    rw [List.map_cons, List.map_cons, PyData.eqvAll, eqvAll_ints a b]
    by_cases h : x = y
    · subst h
      simp [PyData.eqv]
    · simp [PyData.eqv, h]
theorem eq_intsT (a b : List Int) : eqT (.tuple (a.map PyData.int)) (.tuple (b.map PyData.int)) = some (decide (a = b)) := by
  show (if _ then _ else _) = _
  rw [if_pos ⟨shaped_intsT a, shaped_intsT b⟩, PyData.eqv, eqvAll_ints]
theorem wo_start {c k : Int} {Q : D → Prop} (q : ∀ n : Int, Q (.list [.int n])) : Wo (f__law_start [.int c, .int k]) Q := by
  unfold f__law_start
  rw [wo_runF]
  show Ws g__law_start [some (.val (.int c)), some (.val (.int k))] _
  unfold g__law_start
  simp only [backE, wipeE, wo_some, wo_none, wm_c, wm_var, wm_frz, wm_bin, wm_un, wm_tst, wm_tru, wm_truB, wm_chain, wm_and, wm_or, wm_not, wm_andV, wm_orV, wm_notV, wm_ifE, wm_nil, wm_cons, wm_app, wm_noP, wm_part, wm_sl, wm_pk, wm_io, wm_ix, wm_inB, wm_true, wm_seq, wm_rng1, wm_rng2,
  then_nx, then_ret, then_rof, then_brk, then_cnt, ws_next, ws_brk, ws_cnt, ws_seq, ws_if, ws_ret, ws_rof, ws_drop, ws_set, ws_own, ws_asg, wo_TN, wo_TNil, wo_TCons, wo_TTup, ws_ap, ws_setIx, ws_for, for_nil, turn_nx, turn_cnt, turn_brk, turn_ret, turn_rof, wm_lc, end_ret, end_nx, end_rof, end_io, ownOf_own, valOf_val, frz_val, frz_own, cOwn_own, peek_val, peek_own, by_val, by_own, canSet_none, canSet_val, canSet_own, lstOf_list,
  List.getElem?_cons_zero, List.getElem?_cons_succ, List.set_cons_zero, List.set_cons_succ, List.length_cons, List.length_nil, wo_ite, wo_bind, ↓reduceIte, and_true, true_and, and_self, Bool.false_eq_true, Bool.not_true, Bool.not_false, decide_eq_true_eq, decide_true, decide_false, oneInt_int, twoInts_int,
  add_ii, add_ll, add_tt, add_ss, sub_ii, mul_ii, mulS_ii, mod_ii, fdiv_ii, neg_i, le_ii, gt_ii, ge_ii, eqT_ii, eqT_ss, eqT_bb, eqT_nn, ltT_ii, ltT_ss, wo_eqD, wo_neD, wo_ltD, wo_inD, wo_ninD, is_n, isnt_n, is_bb, isnt_bb, isN, bOf_b, iOf_i, tru_b, tru_n, tru_i, tru_l, tru_t, seq_l, seq_t, tup_l, tup_t, lst_l, lst_t, len_l, len_t, int_i, int_b, abs_i, max_ii, min_ii, ix_li, ix_ti, cut_l, cut_t, flat_i, flat_b, flat_s, ix0, ix1, ix2, mkTup, mkLst,
  add2_ll, ws_par3, three_c, ws_grp, empty_own, lOwnD_own, wm_lcW, wm_getD, wm_ind, ix3, ix4, ix_m2, ix_m1, ix_p2, ix_p1, wm_newD, ws_setK, wm_get, wm_ixK, wm_sortN, ws_ext, dOwn_own, lOwn_own, lsD_list, step_nx, step_cnt, step_brk, step_ret, step_rof, wm_reve, rev_l, rev_t, wm_opBL, repr_l, sort_l, sum_l, wm_enum, enum_l, enum_t, enumL_nil, wm_dic, wm_kvn, wm_kvc, seq_s, mulT_si, len_s, ord_c, str_i, ty_d, k_lb, k_li, k_ls, k_tb, k_ti, k_ts, k_db, k_di, k_ds, k_lt, k_tl,
  isi_1, tyOk_n, tyOk_b, tyOk_i, tyOk_s, tyOk_l, tyOk_t, ty_n, ty_b, ty_i, ty_s, ty_l, ty_t, k_nb, k_bb, k_ib, k_sb, k_ni, k_bi, k_ii, k_si, k_ns, k_bs, k_is, k_ss, k_ll, k_tt,
  Int.reduceNeg, Int.reducePow, Int.reduceLT, Int.reduceLE, Int.reduceAdd, Int.reduceSub, Int.reduceMul, Int.reduceToNat, Nat.reduceAdd, Nat.reduceLeDiff, Nat.reduceEqDiff, Int.reduceEq, reduceCtorEq, ws_grpL, empty_ownL, wo_TLst, wg_P, wg_end, wg_then, theng_nx, wg_yield, wm_callG, wo_runG, List.nil_append]
  exact q _
theorem wo_digit {n m : Int} {Q : D × D → Prop} (hm : 0 < m ∧ m ≤ 1000) (q : ∀ d n' : Int, 0 ≤ d → d < m → Q (.int d, .list [.int n'])) : Wo (f__law_digit (.list [.int n]) [.int m]) Q := by
  unfold f__law_digit
  rw [wo_runIO]
  show Ws g__law_digit [some (.own true (.list [.int n])), some (.val (.int m))] _
  unfold g__law_digit
  simp only [backE, wipeE, wo_some, wo_none, wm_c, wm_var, wm_frz, wm_bin, wm_un, wm_tst, wm_tru, wm_truB, wm_chain, wm_and, wm_or, wm_not, wm_andV, wm_orV, wm_notV, wm_ifE, wm_nil, wm_cons, wm_app, wm_noP, wm_part, wm_sl, wm_pk, wm_io, wm_ix, wm_inB, wm_true, wm_seq, wm_rng1, wm_rng2,
  then_nx, then_ret, then_rof, then_brk, then_cnt, ws_next, ws_brk, ws_cnt, ws_seq, ws_if, ws_ret, ws_rof, ws_drop, ws_set, ws_own, ws_asg, wo_TN, wo_TNil, wo_TCons, wo_TTup, ws_ap, ws_setIx, ws_for, for_nil, turn_nx, turn_cnt, turn_brk, turn_ret, turn_rof, wm_lc, end_ret, end_nx, end_rof, end_io, ownOf_own, valOf_val, frz_val, frz_own, cOwn_own, peek_val, peek_own, by_val, by_own, canSet_none, canSet_val, canSet_own, lstOf_list,
  List.getElem?_cons_zero, List.getElem?_cons_succ, List.set_cons_zero, List.set_cons_succ, List.length_cons, List.length_nil, wo_ite, wo_bind, ↓reduceIte, and_true, true_and, and_self, Bool.false_eq_true, Bool.not_true, Bool.not_false, decide_eq_true_eq, decide_true, decide_false, oneInt_int, twoInts_int,
  add_ii, add_ll, add_tt, add_ss, sub_ii, mul_ii, mulS_ii, mod_ii, fdiv_ii, neg_i, le_ii, gt_ii, ge_ii, eqT_ii, eqT_ss, eqT_bb, eqT_nn, ltT_ii, ltT_ss, wo_eqD, wo_neD, wo_ltD, wo_inD, wo_ninD, is_n, isnt_n, is_bb, isnt_bb, isN, bOf_b, iOf_i, tru_b, tru_n, tru_i, tru_l, tru_t, seq_l, seq_t, tup_l, tup_t, lst_l, lst_t, len_l, len_t, int_i, int_b, abs_i, max_ii, min_ii, ix_li, ix_ti, cut_l, cut_t, flat_i, flat_b, flat_s, ix0, ix1, ix2, mkTup, mkLst,
  add2_ll, ws_par3, three_c, ws_grp, empty_own, lOwnD_own, wm_lcW, wm_getD, wm_ind, ix3, ix4, ix_m2, ix_m1, ix_p2, ix_p1, wm_newD, ws_setK, wm_get, wm_ixK, wm_sortN, ws_ext, dOwn_own, lOwn_own, lsD_list, step_nx, step_cnt, step_brk, step_ret, step_rof, wm_reve, rev_l, rev_t, wm_opBL, repr_l, sort_l, sum_l, wm_enum, enum_l, enum_t, enumL_nil, wm_dic, wm_kvn, wm_kvc, seq_s, mulT_si, len_s, ord_c, str_i, ty_d, k_lb, k_li, k_ls, k_tb, k_ti, k_ts, k_db, k_di, k_ds, k_lt, k_tl,
  isi_1, tyOk_n, tyOk_b, tyOk_i, tyOk_s, tyOk_l, tyOk_t, ty_n, ty_b, ty_i, ty_s, ty_l, ty_t, k_nb, k_bb, k_ib, k_sb, k_ni, k_bi, k_ii, k_si, k_ns, k_bs, k_is, k_ss, k_ll, k_tt,
  Int.reduceNeg, Int.reducePow, Int.reduceLT, Int.reduceLE, Int.reduceAdd, Int.reduceSub, Int.reduceMul, Int.reduceToNat, Nat.reduceAdd, Nat.reduceLeDiff, Nat.reduceEqDiff, Int.reduceEq, reduceCtorEq, ws_grpL, empty_ownL, wo_TLst, wg_P, wg_end, wg_then, theng_nx, wg_yield, wm_callG, wo_runG, List.nil_append, hm.1]
  simp only [ixS, wo_some]
  simp
  have e0 : ∀ z : Int, ixA [PyData.int z] 0 = some (.int z) := fun z => rfl
  simp only [backE, wipeE, wo_some, wo_none, wm_c, wm_var, wm_frz, wm_bin, wm_un, wm_tst, wm_tru, wm_truB, wm_chain, wm_and, wm_or, wm_not, wm_andV, wm_orV, wm_notV, wm_ifE, wm_nil, wm_cons, wm_app, wm_noP, wm_part, wm_sl, wm_pk, wm_io, wm_ix, wm_inB, wm_true, wm_seq, wm_rng1, wm_rng2,
  then_nx, then_ret, then_rof, then_brk, then_cnt, ws_next, ws_brk, ws_cnt, ws_seq, ws_if, ws_ret, ws_rof, ws_drop, ws_set, ws_own, ws_asg, wo_TN, wo_TNil, wo_TCons, wo_TTup, ws_ap, ws_setIx, ws_for, for_nil, turn_nx, turn_cnt, turn_brk, turn_ret, turn_rof, wm_lc, end_ret, end_nx, end_rof, end_io, ownOf_own, valOf_val, frz_val, frz_own, cOwn_own, peek_val, peek_own, by_val, by_own, canSet_none, canSet_val, canSet_own, lstOf_list,
  List.getElem?_cons_zero, List.getElem?_cons_succ, List.set_cons_zero, List.set_cons_succ, List.length_cons, List.length_nil, wo_ite, wo_bind, ↓reduceIte, and_true, true_and, and_self, Bool.false_eq_true, Bool.not_true, Bool.not_false, decide_eq_true_eq, decide_true, decide_false, oneInt_int, twoInts_int,
  add_ii, add_ll, add_tt, add_ss, sub_ii, mul_ii, mulS_ii, mod_ii, fdiv_ii, neg_i, le_ii, gt_ii, ge_ii, eqT_ii, eqT_ss, eqT_bb, eqT_nn, ltT_ii, ltT_ss, wo_eqD, wo_neD, wo_ltD, wo_inD, wo_ninD, is_n, isnt_n, is_bb, isnt_bb, isN, bOf_b, iOf_i, tru_b, tru_n, tru_i, tru_l, tru_t, seq_l, seq_t, tup_l, tup_t, lst_l, lst_t, len_l, len_t, int_i, int_b, abs_i, max_ii, min_ii, ix_li, ix_ti, cut_l, cut_t, flat_i, flat_b, flat_s, ix0, ix1, ix2, mkTup, mkLst,
  add2_ll, ws_par3, three_c, ws_grp, empty_own, lOwnD_own, wm_lcW, wm_getD, wm_ind, ix3, ix4, ix_m2, ix_m1, ix_p2, ix_p1, wm_newD, ws_setK, wm_get, wm_ixK, wm_sortN, ws_ext, dOwn_own, lOwn_own, lsD_list, step_nx, step_cnt, step_brk, step_ret, step_rof, wm_reve, rev_l, rev_t, wm_opBL, repr_l, sort_l, sum_l, wm_enum, enum_l, enum_t, enumL_nil, wm_dic, wm_kvn, wm_kvc, seq_s, mulT_si, len_s, ord_c, str_i, ty_d, k_lb, k_li, k_ls, k_tb, k_ti, k_ts, k_db, k_di, k_ds, k_lt, k_tl,
  isi_1, tyOk_n, tyOk_b, tyOk_i, tyOk_s, tyOk_l, tyOk_t, ty_n, ty_b, ty_i, ty_s, ty_l, ty_t, k_nb, k_bb, k_ib, k_sb, k_ni, k_bi, k_ii, k_si, k_ns, k_bs, k_is, k_ss, k_ll, k_tt,
  Int.reduceNeg, Int.reducePow, Int.reduceLT, Int.reduceLE, Int.reduceAdd, Int.reduceSub, Int.reduceMul, Int.reduceToNat, Nat.reduceAdd, Nat.reduceLeDiff, Nat.reduceEqDiff, Int.reduceEq, reduceCtorEq, ws_grpL, empty_ownL, wo_TLst, wg_P, wg_end, wg_then, theng_nx, wg_yield, wm_callG, wo_runG, List.nil_append, e0, hm.1]
  exact q _ _ (Int.emod_nonneg _ (by omega)) (Int.emod_lt_of_pos _ hm.1)
theorem sp_choose {p : Nat} (hp : four p) : f__law_choose [.int p, .int (16 - lowP p * p)] = some (.list ((riches p).map intsL)) := by
  rcases hp with rfl | rfl | rfl | rfl
  · kernel_rfl
  · kernel_rfl
  · kernel_rfl
  · kernel_rfl
def evL (m : Nat) : List Int := (List.range 16).map fun g => ((g * m / 16 : Nat) : Int)
theorem sp_even {m : Nat} (hm : four m) : f_even_owners [.int m] = some (intsT (evL m)) := by
  rcases hm with rfl | rfl | rfl | rfl
  · kernel_rfl
  · kernel_rfl
  · kernel_rfl
  · kernel_rfl
theorem ev_even {m : Nat} (hm : four m) : evenO m (evL m) := by
  rcases hm with rfl | rfl | rfl | rfl
  · exact ⟨rfl, by unfold inP4; decide, [], by decide, by decide⟩
  · exact ⟨rfl, by unfold inP4; decide, [], by decide, by decide⟩
  · exact ⟨rfl, by unfold inP4; decide, [0], by decide, by decide⟩
  · exact ⟨rfl, by unfold inP4; decide, [], by decide, by decide⟩
theorem four_low {p : Nat} (hp : four p) : (16 : Int) / (p : Int) = lowP p ∧ 1 ≤ p ∧ p ≤ 4 := by
  refine ⟨rfl, ?_⟩
  rcases hp with rfl | rfl | rfl | rfl <;> decide
theorem wm_cnt {ρ : Dn.Env} {Q : List D × Dn.Env → Prop} {i : Nat} : True := trivial
theorem enum_ints (c : List Int) : enumL 0 (c.map PyData.int) = (List.range c.length).map fun k : Nat => PyData.tuple [.int (k : Int), .int ((c[k]?).getD 0)] := by
  refine List.ext_getElem? fun j => ?_
  rw [enumL_get, List.getElem?_map, List.getElem?_map]
  by_cases h : j < c.length
  · rw [List.getElem?_range h, List.getElem?_eq_getElem h]
    simp [List.getElem?_eq_getElem h]
  · rw [List.getElem?_eq_none (by omega), List.getElem?_eq_none (by rw [List.length_range]; omega)]
    rfl
theorem map_int (p : Nat) (f : Nat → Int) : ((List.range p).map fun t => PyData.int (f t)) = ((List.range p).map f).map PyData.int := by rw [List.map_map]; rfl
theorem nums_rg (p : Nat) (f : Nat → Int) : Dn.numsOf ((List.range p).map fun t => PyData.int (f t)) = some ((List.range p).map f) := by
  rw [map_int, Dn.nums_map]
theorem sum_rg (p : Nat) (f : Nat → Int) : ((List.range p).map f).sum = sumR p f := by
  unfold sumR
  exact Eq.trans (Int.add_zero _).symm (Int.add_zero _)
theorem max1_rg {p : Nat} (hp : 1 ≤ p) (f : Nat → Int) : ∃ m, max1F [.list ((List.range p).map fun t => PyData.int (f t))] = some (.int m) ∧ (∀ v : Int, v < m ↔ ((List.range p).any fun t => decide (v < f t)) = true) := by
  rw [map_int]
  cases e : (List.range p).map f with
  | nil => have := congrArg List.length e; simp at this; omega
  | cons x xs =>
    obtain ⟨m, h1, h2, h3, h4⟩ := max1_ints x xs
    refine ⟨m, h1, fun v => ?_⟩
    have e2 : ((List.range p).any fun t => decide (v < f t)) = ((List.range p).map f).any fun y => decide (v < y) := by rw [List.any_map]; rfl
    rw [e2, e, List.any_eq_true]
    constructor
    · intro hv
      rcases h4 with h4 | h4
      · exact ⟨x, List.mem_cons_self, by simp; omega⟩
      · exact ⟨m, List.mem_cons_of_mem _ h4, by simpa using hv⟩
    · rintro ⟨y, hy, hv⟩
      have hv : v < y := by simpa using hv
      rcases List.mem_cons.mp hy with rfl | hy
      · omega
      · have := h3 y hy
        omega
theorem nums_is (ns : List Int) : Dn.numsOf (ns.map PyData.int) = some ns := Dn.nums_map ns
theorem sp_can_end {p : Nat} (hp : four p) {ow c : List Int} (ho : ow.length = 16) (hc : inP4 p c) (hl : c.length ≤ 16) : f_can_end [intsT ow, intsT c, .int p] = some (optD (GV p ow c)) := by
  obtain ⟨h1, h2, h3⟩ := four_low hp
  have hp62 : small62 ((p : Nat) : Int) = true := small_nat (by omega)
  rw [← wo_eq]
  unfold f_can_end
  rw [wo_runV]
  show Ws g_can_end [some (.val (intsT ow)), some (.val (intsT c)), some (.val (.int p)), none, none, none, none, none, none, none, none, none, none, none, none, none, none, none, none] _
  unfold g_can_end
  have hlog : (Int.natAbs (lowP p)).log2 + (Int.natAbs (p : Int)).log2 < 1000000 := by
    rcases hp with rfl | rfl | rfl | rfl <;> decide
  have hfd : (0 : Int) < p ∧ ((p : Nat) : Int) < 18446744073709551616 := ⟨by omega, by omega⟩
  have hrest : (ow.drop c.length).length = 16 - c.length := by rw [List.length_drop, ho]
  have hmax : ∀ i j : Int, (if j > i then j else i) = max i j := fun i j => by split <;> omega
  have hmin : ∀ i j : Int, (if j < i then j else i) = min i j := fun i j => by split <;> omega
  simp only [backE, wipeE, wo_some, wo_none, wm_c, wm_var, wm_frz, wm_bin, wm_un, wm_tst, wm_tru, wm_truB, wm_chain, wm_and, wm_or, wm_not, wm_andV, wm_orV, wm_notV, wm_ifE, wm_nil, wm_cons, wm_app, wm_noP, wm_part, wm_sl, wm_pk, wm_io, wm_ix, wm_inB, wm_true, wm_seq, wm_rng1, wm_rng2,
  then_nx, then_ret, then_rof, then_brk, then_cnt, ws_next, ws_brk, ws_cnt, ws_seq, ws_if, ws_ret, ws_rof, ws_drop, ws_set, ws_own, ws_asg, wo_TN, wo_TNil, wo_TCons, wo_TTup, ws_ap, ws_setIx, ws_for, for_nil, turn_nx, turn_cnt, turn_brk, turn_ret, turn_rof, wm_lc, end_ret, end_nx, end_rof, end_io, ownOf_own, valOf_val, frz_val, frz_own, cOwn_own, peek_val, peek_own, by_val, by_own, canSet_none, canSet_val, canSet_own, lstOf_list,
  List.getElem?_cons_zero, List.getElem?_cons_succ, List.set_cons_zero, List.set_cons_succ, List.length_cons, List.length_nil, wo_ite, wo_bind, ↓reduceIte, and_true, true_and, and_self, Bool.false_eq_true, Bool.not_true, Bool.not_false, decide_eq_true_eq, decide_true, decide_false, oneInt_int, twoInts_int,
  add_ii, add_ll, add_tt, add_ss, sub_ii, mul_ii, mulS_ii, mod_ii, fdiv_ii, neg_i, le_ii, gt_ii, ge_ii, eqT_ii, eqT_ss, eqT_bb, eqT_nn, ltT_ii, ltT_ss, wo_eqD, wo_neD, wo_ltD, wo_inD, wo_ninD, is_n, isnt_n, is_bb, isnt_bb, isN, bOf_b, iOf_i, tru_b, tru_n, tru_i, tru_l, tru_t, seq_l, seq_t, tup_l, tup_t, lst_l, lst_t, len_l, len_t, int_i, int_b, abs_i, max_ii, min_ii, ix_li, ix_ti, cut_l, cut_t, flat_i, flat_b, flat_s, ix0, ix1, ix2, mkTup, mkLst,
  add2_ll, ws_par3, three_c, ws_grp, empty_own, lOwnD_own, wm_lcW, wm_getD, wm_ind, ix3, ix4, ix_m2, ix_m1, ix_p2, ix_p1, wm_newD, ws_setK, wm_get, wm_ixK, wm_sortN, ws_ext, dOwn_own, lOwn_own, lsD_list, step_nx, step_cnt, step_brk, step_ret, step_rof, wm_reve, rev_l, rev_t, wm_opBL, repr_l, sort_l, sum_l, wm_enum, enum_l, enum_t, enumL_nil, wm_dic, wm_kvn, wm_kvc, seq_s, mulT_si, len_s, ord_c, str_i, ty_d, k_lb, k_li, k_ls, k_tb, k_ti, k_ts, k_db, k_di, k_ds, k_lt, k_tl,
  isi_1, tyOk_n, tyOk_b, tyOk_i, tyOk_s, tyOk_l, tyOk_t, ty_n, ty_b, ty_i, ty_s, ty_l, ty_t, k_nb, k_bb, k_ib, k_sb, k_ni, k_bi, k_ii, k_si, k_ns, k_bs, k_is, k_ss, k_ll, k_tt,
  Int.reduceNeg, Int.reducePow, Int.reduceLT, Int.reduceLE, Int.reduceAdd, Int.reduceSub, Int.reduceMul, Int.reduceToNat, Nat.reduceAdd, Nat.reduceLeDiff, Nat.reduceEqDiff, Int.reduceEq, reduceCtorEq, ws_grpL, empty_ownL, wo_TLst, wg_P, wg_end, wg_then, theng_nx, wg_yield, wm_callG, wo_runG, List.nil_append, intsT, h1, hlog, hp62, hfd, rng_map, Int.toNat_natCast, List.length_map, List.length_range]
  refine ⟨⟨by omega, rfl⟩, ?_⟩
  refine lc_mapA (fun i : Nat => PyData.int i) (fun t => .int (hC c t)) _ (fun t _ => ?_) ?_
  · simp only [backE, wipeE, wo_some, wo_none, wm_c, wm_var, wm_frz, wm_bin, wm_un, wm_tst, wm_tru, wm_truB, wm_chain, wm_and, wm_or, wm_not, wm_andV, wm_orV, wm_notV, wm_ifE, wm_nil, wm_cons, wm_app, wm_noP, wm_part, wm_sl, wm_pk, wm_io, wm_ix, wm_inB, wm_true, wm_seq, wm_rng1, wm_rng2,
  then_nx, then_ret, then_rof, then_brk, then_cnt, ws_next, ws_brk, ws_cnt, ws_seq, ws_if, ws_ret, ws_rof, ws_drop, ws_set, ws_own, ws_asg, wo_TN, wo_TNil, wo_TCons, wo_TTup, ws_ap, ws_setIx, ws_for, for_nil, turn_nx, turn_cnt, turn_brk, turn_ret, turn_rof, wm_lc, end_ret, end_nx, end_rof, end_io, ownOf_own, valOf_val, frz_val, frz_own, cOwn_own, peek_val, peek_own, by_val, by_own, canSet_none, canSet_val, canSet_own, lstOf_list,
  List.getElem?_cons_zero, List.getElem?_cons_succ, List.set_cons_zero, List.set_cons_succ, List.length_cons, List.length_nil, wo_ite, wo_bind, ↓reduceIte, and_true, true_and, and_self, Bool.false_eq_true, Bool.not_true, Bool.not_false, decide_eq_true_eq, decide_true, decide_false, oneInt_int, twoInts_int,
  add_ii, add_ll, add_tt, add_ss, sub_ii, mul_ii, mulS_ii, mod_ii, fdiv_ii, neg_i, le_ii, gt_ii, ge_ii, eqT_ii, eqT_ss, eqT_bb, eqT_nn, ltT_ii, ltT_ss, wo_eqD, wo_neD, wo_ltD, wo_inD, wo_ninD, is_n, isnt_n, is_bb, isnt_bb, isN, bOf_b, iOf_i, tru_b, tru_n, tru_i, tru_l, tru_t, seq_l, seq_t, tup_l, tup_t, lst_l, lst_t, len_l, len_t, int_i, int_b, abs_i, max_ii, min_ii, ix_li, ix_ti, cut_l, cut_t, flat_i, flat_b, flat_s, ix0, ix1, ix2, mkTup, mkLst,
  add2_ll, ws_par3, three_c, ws_grp, empty_own, lOwnD_own, wm_lcW, wm_getD, wm_ind, ix3, ix4, ix_m2, ix_m1, ix_p2, ix_p1, wm_newD, ws_setK, wm_get, wm_ixK, wm_sortN, ws_ext, dOwn_own, lOwn_own, lsD_list, step_nx, step_cnt, step_brk, step_ret, step_rof, wm_reve, rev_l, rev_t, wm_opBL, repr_l, sort_l, sum_l, wm_enum, enum_l, enum_t, enumL_nil, wm_dic, wm_kvn, wm_kvc, seq_s, mulT_si, len_s, ord_c, str_i, ty_d, k_lb, k_li, k_ls, k_tb, k_ti, k_ts, k_db, k_di, k_ds, k_lt, k_tl,
  isi_1, tyOk_n, tyOk_b, tyOk_i, tyOk_s, tyOk_l, tyOk_t, ty_n, ty_b, ty_i, ty_s, ty_l, ty_t, k_nb, k_bb, k_ib, k_sb, k_ni, k_bi, k_ii, k_si, k_ns, k_bs, k_is, k_ss, k_ll, k_tt,
  Int.reduceNeg, Int.reducePow, Int.reduceLT, Int.reduceLE, Int.reduceAdd, Int.reduceSub, Int.reduceMul, Int.reduceToNat, Nat.reduceAdd, Nat.reduceLeDiff, Nat.reduceEqDiff, Int.reduceEq, reduceCtorEq, ws_grpL, empty_ownL, wo_TLst, wg_P, wg_end, wg_then, theng_nx, wg_yield, wm_callG, wo_runG, List.nil_append, List.length_map]
    refine ⟨⟨by omega, rfl⟩, ?_⟩
    refine lc_filterA PyData.int PyData.int (fun x => decide (x = t)) _ (fun x _ => ?_) ?_
    · simp only [backE, wipeE, wo_some, wo_none, wm_c, wm_var, wm_frz, wm_bin, wm_un, wm_tst, wm_tru, wm_truB, wm_chain, wm_and, wm_or, wm_not, wm_andV, wm_orV, wm_notV, wm_ifE, wm_nil, wm_cons, wm_app, wm_noP, wm_part, wm_sl, wm_pk, wm_io, wm_ix, wm_inB, wm_true, wm_seq, wm_rng1, wm_rng2,
  then_nx, then_ret, then_rof, then_brk, then_cnt, ws_next, ws_brk, ws_cnt, ws_seq, ws_if, ws_ret, ws_rof, ws_drop, ws_set, ws_own, ws_asg, wo_TN, wo_TNil, wo_TCons, wo_TTup, ws_ap, ws_setIx, ws_for, for_nil, turn_nx, turn_cnt, turn_brk, turn_ret, turn_rof, wm_lc, end_ret, end_nx, end_rof, end_io, ownOf_own, valOf_val, frz_val, frz_own, cOwn_own, peek_val, peek_own, by_val, by_own, canSet_none, canSet_val, canSet_own, lstOf_list,
  List.getElem?_cons_zero, List.getElem?_cons_succ, List.set_cons_zero, List.set_cons_succ, List.length_cons, List.length_nil, wo_ite, wo_bind, ↓reduceIte, and_true, true_and, and_self, Bool.false_eq_true, Bool.not_true, Bool.not_false, decide_eq_true_eq, decide_true, decide_false, oneInt_int, twoInts_int,
  add_ii, add_ll, add_tt, add_ss, sub_ii, mul_ii, mulS_ii, mod_ii, fdiv_ii, neg_i, le_ii, gt_ii, ge_ii, eqT_ii, eqT_ss, eqT_bb, eqT_nn, ltT_ii, ltT_ss, wo_eqD, wo_neD, wo_ltD, wo_inD, wo_ninD, is_n, isnt_n, is_bb, isnt_bb, isN, bOf_b, iOf_i, tru_b, tru_n, tru_i, tru_l, tru_t, seq_l, seq_t, tup_l, tup_t, lst_l, lst_t, len_l, len_t, int_i, int_b, abs_i, max_ii, min_ii, ix_li, ix_ti, cut_l, cut_t, flat_i, flat_b, flat_s, ix0, ix1, ix2, mkTup, mkLst,
  add2_ll, ws_par3, three_c, ws_grp, empty_own, lOwnD_own, wm_lcW, wm_getD, wm_ind, ix3, ix4, ix_m2, ix_m1, ix_p2, ix_p1, wm_newD, ws_setK, wm_get, wm_ixK, wm_sortN, ws_ext, dOwn_own, lOwn_own, lsD_list, step_nx, step_cnt, step_brk, step_ret, step_rof, wm_reve, rev_l, rev_t, wm_opBL, repr_l, sort_l, sum_l, wm_enum, enum_l, enum_t, enumL_nil, wm_dic, wm_kvn, wm_kvc, seq_s, mulT_si, len_s, ord_c, str_i, ty_d, k_lb, k_li, k_ls, k_tb, k_ti, k_ts, k_db, k_di, k_ds, k_lt, k_tl,
  isi_1, tyOk_n, tyOk_b, tyOk_i, tyOk_s, tyOk_l, tyOk_t, ty_n, ty_b, ty_i, ty_s, ty_l, ty_t, k_nb, k_bb, k_ib, k_sb, k_ni, k_bi, k_ii, k_si, k_ns, k_bs, k_is, k_ss, k_ll, k_tt,
  Int.reduceNeg, Int.reducePow, Int.reduceLT, Int.reduceLE, Int.reduceAdd, Int.reduceSub, Int.reduceMul, Int.reduceToNat, Nat.reduceAdd, Nat.reduceLeDiff, Nat.reduceEqDiff, Int.reduceEq, reduceCtorEq, ws_grpL, empty_ownL, wo_TLst, wg_P, wg_end, wg_then, theng_nx, wg_yield, wm_callG, wo_runG, List.nil_append]
      exact ⟨fun _ => trivial, fun _ => trivial⟩
    · simp only [backE, wipeE, wo_some, wo_none, wm_c, wm_var, wm_frz, wm_bin, wm_un, wm_tst, wm_tru, wm_truB, wm_chain, wm_and, wm_or, wm_not, wm_andV, wm_orV, wm_notV, wm_ifE, wm_nil, wm_cons, wm_app, wm_noP, wm_part, wm_sl, wm_pk, wm_io, wm_ix, wm_inB, wm_true, wm_seq, wm_rng1, wm_rng2,
  then_nx, then_ret, then_rof, then_brk, then_cnt, ws_next, ws_brk, ws_cnt, ws_seq, ws_if, ws_ret, ws_rof, ws_drop, ws_set, ws_own, ws_asg, wo_TN, wo_TNil, wo_TCons, wo_TTup, ws_ap, ws_setIx, ws_for, for_nil, turn_nx, turn_cnt, turn_brk, turn_ret, turn_rof, wm_lc, end_ret, end_nx, end_rof, end_io, ownOf_own, valOf_val, frz_val, frz_own, cOwn_own, peek_val, peek_own, by_val, by_own, canSet_none, canSet_val, canSet_own, lstOf_list,
  List.getElem?_cons_zero, List.getElem?_cons_succ, List.set_cons_zero, List.set_cons_succ, List.length_cons, List.length_nil, wo_ite, wo_bind, ↓reduceIte, and_true, true_and, and_self, Bool.false_eq_true, Bool.not_true, Bool.not_false, decide_eq_true_eq, decide_true, decide_false, oneInt_int, twoInts_int,
  add_ii, add_ll, add_tt, add_ss, sub_ii, mul_ii, mulS_ii, mod_ii, fdiv_ii, neg_i, le_ii, gt_ii, ge_ii, eqT_ii, eqT_ss, eqT_bb, eqT_nn, ltT_ii, ltT_ss, wo_eqD, wo_neD, wo_ltD, wo_inD, wo_ninD, is_n, isnt_n, is_bb, isnt_bb, isN, bOf_b, iOf_i, tru_b, tru_n, tru_i, tru_l, tru_t, seq_l, seq_t, tup_l, tup_t, lst_l, lst_t, len_l, len_t, int_i, int_b, abs_i, max_ii, min_ii, ix_li, ix_ti, cut_l, cut_t, flat_i, flat_b, flat_s, ix0, ix1, ix2, mkTup, mkLst,
  add2_ll, ws_par3, three_c, ws_grp, empty_own, lOwnD_own, wm_lcW, wm_getD, wm_ind, ix3, ix4, ix_m2, ix_m1, ix_p2, ix_p1, wm_newD, ws_setK, wm_get, wm_ixK, wm_sortN, ws_ext, dOwn_own, lOwn_own, lsD_list, step_nx, step_cnt, step_brk, step_ret, step_rof, wm_reve, rev_l, rev_t, wm_opBL, repr_l, sort_l, sum_l, wm_enum, enum_l, enum_t, enumL_nil, wm_dic, wm_kvn, wm_kvc, seq_s, mulT_si, len_s, ord_c, str_i, ty_d, k_lb, k_li, k_ls, k_tb, k_ti, k_ts, k_db, k_di, k_ds, k_lt, k_tl,
  isi_1, tyOk_n, tyOk_b, tyOk_i, tyOk_s, tyOk_l, tyOk_t, ty_n, ty_b, ty_i, ty_s, ty_l, ty_t, k_nb, k_bb, k_ib, k_sb, k_ni, k_bi, k_ii, k_si, k_ns, k_bs, k_is, k_ss, k_ll, k_tt,
  Int.reduceNeg, Int.reducePow, Int.reduceLT, Int.reduceLE, Int.reduceAdd, Int.reduceSub, Int.reduceMul, Int.reduceToNat, Nat.reduceAdd, Nat.reduceLeDiff, Nat.reduceEqDiff, Int.reduceEq, reduceCtorEq, ws_grpL, empty_ownL, wo_TLst, wg_P, wg_end, wg_then, theng_nx, wg_yield, wm_callG, wo_runG, List.nil_append, backE, List.length_map]
      rfl
  simp only [backE, wipeE, wo_some, wo_none, wm_c, wm_var, wm_frz, wm_bin, wm_un, wm_tst, wm_tru, wm_truB, wm_chain, wm_and, wm_or, wm_not, wm_andV, wm_orV, wm_notV, wm_ifE, wm_nil, wm_cons, wm_app, wm_noP, wm_part, wm_sl, wm_pk, wm_io, wm_ix, wm_inB, wm_true, wm_seq, wm_rng1, wm_rng2,
  then_nx, then_ret, then_rof, then_brk, then_cnt, ws_next, ws_brk, ws_cnt, ws_seq, ws_if, ws_ret, ws_rof, ws_drop, ws_set, ws_own, ws_asg, wo_TN, wo_TNil, wo_TCons, wo_TTup, ws_ap, ws_setIx, ws_for, for_nil, turn_nx, turn_cnt, turn_brk, turn_ret, turn_rof, wm_lc, end_ret, end_nx, end_rof, end_io, ownOf_own, valOf_val, frz_val, frz_own, cOwn_own, peek_val, peek_own, by_val, by_own, canSet_none, canSet_val, canSet_own, lstOf_list,
  List.getElem?_cons_zero, List.getElem?_cons_succ, List.set_cons_zero, List.set_cons_succ, List.length_cons, List.length_nil, wo_ite, wo_bind, ↓reduceIte, and_true, true_and, and_self, Bool.false_eq_true, Bool.not_true, Bool.not_false, decide_eq_true_eq, decide_true, decide_false, oneInt_int, twoInts_int,
  add_ii, add_ll, add_tt, add_ss, sub_ii, mul_ii, mulS_ii, mod_ii, fdiv_ii, neg_i, le_ii, gt_ii, ge_ii, eqT_ii, eqT_ss, eqT_bb, eqT_nn, ltT_ii, ltT_ss, wo_eqD, wo_neD, wo_ltD, wo_inD, wo_ninD, is_n, isnt_n, is_bb, isnt_bb, isN, bOf_b, iOf_i, tru_b, tru_n, tru_i, tru_l, tru_t, seq_l, seq_t, tup_l, tup_t, lst_l, lst_t, len_l, len_t, int_i, int_b, abs_i, max_ii, min_ii, ix_li, ix_ti, cut_l, cut_t, flat_i, flat_b, flat_s, ix0, ix1, ix2, mkTup, mkLst,
  add2_ll, ws_par3, three_c, ws_grp, empty_own, lOwnD_own, wm_lcW, wm_getD, wm_ind, ix3, ix4, ix_m2, ix_m1, ix_p2, ix_p1, wm_newD, ws_setK, wm_get, wm_ixK, wm_sortN, ws_ext, dOwn_own, lOwn_own, lsD_list, step_nx, step_cnt, step_brk, step_ret, step_rof, wm_reve, rev_l, rev_t, wm_opBL, repr_l, sort_l, sum_l, wm_enum, enum_l, enum_t, enumL_nil, wm_dic, wm_kvn, wm_kvc, seq_s, mulT_si, len_s, ord_c, str_i, ty_d, k_lb, k_li, k_ls, k_tb, k_ti, k_ts, k_db, k_di, k_ds, k_lt, k_tl,
  isi_1, tyOk_n, tyOk_b, tyOk_i, tyOk_s, tyOk_l, tyOk_t, ty_n, ty_b, ty_i, ty_s, ty_l, ty_t, k_nb, k_bb, k_ib, k_sb, k_ni, k_bi, k_ii, k_si, k_ns, k_bs, k_is, k_ss, k_ll, k_tt,
  Int.reduceNeg, Int.reducePow, Int.reduceLT, Int.reduceLE, Int.reduceAdd, Int.reduceSub, Int.reduceMul, Int.reduceToNat, Nat.reduceAdd, Nat.reduceLeDiff, Nat.reduceEqDiff, Int.reduceEq, reduceCtorEq, ws_grpL, empty_ownL, wo_TLst, wg_P, wg_end, wg_then, theng_nx, wg_yield, wm_callG, wo_runG, List.nil_append, backE, cut_drop, hp62, rng_map, Int.toNat_natCast, List.length_map, List.length_range]
  rw [← List.map_drop]
  refine ⟨⟨by omega, rfl⟩, ?_⟩
  refine lc_mapA (fun i : Nat => PyData.int i) (fun t => .int (lC ow c t)) _ (fun t _ => ?_) ?_
  · simp only [backE, wipeE, wo_some, wo_none, wm_c, wm_var, wm_frz, wm_bin, wm_un, wm_tst, wm_tru, wm_truB, wm_chain, wm_and, wm_or, wm_not, wm_andV, wm_orV, wm_notV, wm_ifE, wm_nil, wm_cons, wm_app, wm_noP, wm_part, wm_sl, wm_pk, wm_io, wm_ix, wm_inB, wm_true, wm_seq, wm_rng1, wm_rng2,
  then_nx, then_ret, then_rof, then_brk, then_cnt, ws_next, ws_brk, ws_cnt, ws_seq, ws_if, ws_ret, ws_rof, ws_drop, ws_set, ws_own, ws_asg, wo_TN, wo_TNil, wo_TCons, wo_TTup, ws_ap, ws_setIx, ws_for, for_nil, turn_nx, turn_cnt, turn_brk, turn_ret, turn_rof, wm_lc, end_ret, end_nx, end_rof, end_io, ownOf_own, valOf_val, frz_val, frz_own, cOwn_own, peek_val, peek_own, by_val, by_own, canSet_none, canSet_val, canSet_own, lstOf_list,
  List.getElem?_cons_zero, List.getElem?_cons_succ, List.set_cons_zero, List.set_cons_succ, List.length_cons, List.length_nil, wo_ite, wo_bind, ↓reduceIte, and_true, true_and, and_self, Bool.false_eq_true, Bool.not_true, Bool.not_false, decide_eq_true_eq, decide_true, decide_false, oneInt_int, twoInts_int,
  add_ii, add_ll, add_tt, add_ss, sub_ii, mul_ii, mulS_ii, mod_ii, fdiv_ii, neg_i, le_ii, gt_ii, ge_ii, eqT_ii, eqT_ss, eqT_bb, eqT_nn, ltT_ii, ltT_ss, wo_eqD, wo_neD, wo_ltD, wo_inD, wo_ninD, is_n, isnt_n, is_bb, isnt_bb, isN, bOf_b, iOf_i, tru_b, tru_n, tru_i, tru_l, tru_t, seq_l, seq_t, tup_l, tup_t, lst_l, lst_t, len_l, len_t, int_i, int_b, abs_i, max_ii, min_ii, ix_li, ix_ti, cut_l, cut_t, flat_i, flat_b, flat_s, ix0, ix1, ix2, mkTup, mkLst,
  add2_ll, ws_par3, three_c, ws_grp, empty_own, lOwnD_own, wm_lcW, wm_getD, wm_ind, ix3, ix4, ix_m2, ix_m1, ix_p2, ix_p1, wm_newD, ws_setK, wm_get, wm_ixK, wm_sortN, ws_ext, dOwn_own, lOwn_own, lsD_list, step_nx, step_cnt, step_brk, step_ret, step_rof, wm_reve, rev_l, rev_t, wm_opBL, repr_l, sort_l, sum_l, wm_enum, enum_l, enum_t, enumL_nil, wm_dic, wm_kvn, wm_kvc, seq_s, mulT_si, len_s, ord_c, str_i, ty_d, k_lb, k_li, k_ls, k_tb, k_ti, k_ts, k_db, k_di, k_ds, k_lt, k_tl,
  isi_1, tyOk_n, tyOk_b, tyOk_i, tyOk_s, tyOk_l, tyOk_t, ty_n, ty_b, ty_i, ty_s, ty_l, ty_t, k_nb, k_bb, k_ib, k_sb, k_ni, k_bi, k_ii, k_si, k_ns, k_bs, k_is, k_ss, k_ll, k_tt,
  Int.reduceNeg, Int.reducePow, Int.reduceLT, Int.reduceLE, Int.reduceAdd, Int.reduceSub, Int.reduceMul, Int.reduceToNat, Nat.reduceAdd, Nat.reduceLeDiff, Nat.reduceEqDiff, Int.reduceEq, reduceCtorEq, ws_grpL, empty_ownL, wo_TLst, wg_P, wg_end, wg_then, theng_nx, wg_yield, wm_callG, wo_runG, List.nil_append, List.length_map]
    refine ⟨⟨by rw [hrest]; omega, rfl⟩, ?_⟩
    refine lc_filterA PyData.int PyData.int (fun x => decide (x = t)) _ (fun x _ => ?_) ?_
    · simp only [backE, wipeE, wo_some, wo_none, wm_c, wm_var, wm_frz, wm_bin, wm_un, wm_tst, wm_tru, wm_truB, wm_chain, wm_and, wm_or, wm_not, wm_andV, wm_orV, wm_notV, wm_ifE, wm_nil, wm_cons, wm_app, wm_noP, wm_part, wm_sl, wm_pk, wm_io, wm_ix, wm_inB, wm_true, wm_seq, wm_rng1, wm_rng2,
  then_nx, then_ret, then_rof, then_brk, then_cnt, ws_next, ws_brk, ws_cnt, ws_seq, ws_if, ws_ret, ws_rof, ws_drop, ws_set, ws_own, ws_asg, wo_TN, wo_TNil, wo_TCons, wo_TTup, ws_ap, ws_setIx, ws_for, for_nil, turn_nx, turn_cnt, turn_brk, turn_ret, turn_rof, wm_lc, end_ret, end_nx, end_rof, end_io, ownOf_own, valOf_val, frz_val, frz_own, cOwn_own, peek_val, peek_own, by_val, by_own, canSet_none, canSet_val, canSet_own, lstOf_list,
  List.getElem?_cons_zero, List.getElem?_cons_succ, List.set_cons_zero, List.set_cons_succ, List.length_cons, List.length_nil, wo_ite, wo_bind, ↓reduceIte, and_true, true_and, and_self, Bool.false_eq_true, Bool.not_true, Bool.not_false, decide_eq_true_eq, decide_true, decide_false, oneInt_int, twoInts_int,
  add_ii, add_ll, add_tt, add_ss, sub_ii, mul_ii, mulS_ii, mod_ii, fdiv_ii, neg_i, le_ii, gt_ii, ge_ii, eqT_ii, eqT_ss, eqT_bb, eqT_nn, ltT_ii, ltT_ss, wo_eqD, wo_neD, wo_ltD, wo_inD, wo_ninD, is_n, isnt_n, is_bb, isnt_bb, isN, bOf_b, iOf_i, tru_b, tru_n, tru_i, tru_l, tru_t, seq_l, seq_t, tup_l, tup_t, lst_l, lst_t, len_l, len_t, int_i, int_b, abs_i, max_ii, min_ii, ix_li, ix_ti, cut_l, cut_t, flat_i, flat_b, flat_s, ix0, ix1, ix2, mkTup, mkLst,
  add2_ll, ws_par3, three_c, ws_grp, empty_own, lOwnD_own, wm_lcW, wm_getD, wm_ind, ix3, ix4, ix_m2, ix_m1, ix_p2, ix_p1, wm_newD, ws_setK, wm_get, wm_ixK, wm_sortN, ws_ext, dOwn_own, lOwn_own, lsD_list, step_nx, step_cnt, step_brk, step_ret, step_rof, wm_reve, rev_l, rev_t, wm_opBL, repr_l, sort_l, sum_l, wm_enum, enum_l, enum_t, enumL_nil, wm_dic, wm_kvn, wm_kvc, seq_s, mulT_si, len_s, ord_c, str_i, ty_d, k_lb, k_li, k_ls, k_tb, k_ti, k_ts, k_db, k_di, k_ds, k_lt, k_tl,
  isi_1, tyOk_n, tyOk_b, tyOk_i, tyOk_s, tyOk_l, tyOk_t, ty_n, ty_b, ty_i, ty_s, ty_l, ty_t, k_nb, k_bb, k_ib, k_sb, k_ni, k_bi, k_ii, k_si, k_ns, k_bs, k_is, k_ss, k_ll, k_tt,
  Int.reduceNeg, Int.reducePow, Int.reduceLT, Int.reduceLE, Int.reduceAdd, Int.reduceSub, Int.reduceMul, Int.reduceToNat, Nat.reduceAdd, Nat.reduceLeDiff, Nat.reduceEqDiff, Int.reduceEq, reduceCtorEq, ws_grpL, empty_ownL, wo_TLst, wg_P, wg_end, wg_then, theng_nx, wg_yield, wm_callG, wo_runG, List.nil_append]
      exact ⟨fun _ => trivial, fun _ => trivial⟩
    · simp only [backE, wipeE, wo_some, wo_none, wm_c, wm_var, wm_frz, wm_bin, wm_un, wm_tst, wm_tru, wm_truB, wm_chain, wm_and, wm_or, wm_not, wm_andV, wm_orV, wm_notV, wm_ifE, wm_nil, wm_cons, wm_app, wm_noP, wm_part, wm_sl, wm_pk, wm_io, wm_ix, wm_inB, wm_true, wm_seq, wm_rng1, wm_rng2,
  then_nx, then_ret, then_rof, then_brk, then_cnt, ws_next, ws_brk, ws_cnt, ws_seq, ws_if, ws_ret, ws_rof, ws_drop, ws_set, ws_own, ws_asg, wo_TN, wo_TNil, wo_TCons, wo_TTup, ws_ap, ws_setIx, ws_for, for_nil, turn_nx, turn_cnt, turn_brk, turn_ret, turn_rof, wm_lc, end_ret, end_nx, end_rof, end_io, ownOf_own, valOf_val, frz_val, frz_own, cOwn_own, peek_val, peek_own, by_val, by_own, canSet_none, canSet_val, canSet_own, lstOf_list,
  List.getElem?_cons_zero, List.getElem?_cons_succ, List.set_cons_zero, List.set_cons_succ, List.length_cons, List.length_nil, wo_ite, wo_bind, ↓reduceIte, and_true, true_and, and_self, Bool.false_eq_true, Bool.not_true, Bool.not_false, decide_eq_true_eq, decide_true, decide_false, oneInt_int, twoInts_int,
  add_ii, add_ll, add_tt, add_ss, sub_ii, mul_ii, mulS_ii, mod_ii, fdiv_ii, neg_i, le_ii, gt_ii, ge_ii, eqT_ii, eqT_ss, eqT_bb, eqT_nn, ltT_ii, ltT_ss, wo_eqD, wo_neD, wo_ltD, wo_inD, wo_ninD, is_n, isnt_n, is_bb, isnt_bb, isN, bOf_b, iOf_i, tru_b, tru_n, tru_i, tru_l, tru_t, seq_l, seq_t, tup_l, tup_t, lst_l, lst_t, len_l, len_t, int_i, int_b, abs_i, max_ii, min_ii, ix_li, ix_ti, cut_l, cut_t, flat_i, flat_b, flat_s, ix0, ix1, ix2, mkTup, mkLst,
  add2_ll, ws_par3, three_c, ws_grp, empty_own, lOwnD_own, wm_lcW, wm_getD, wm_ind, ix3, ix4, ix_m2, ix_m1, ix_p2, ix_p1, wm_newD, ws_setK, wm_get, wm_ixK, wm_sortN, ws_ext, dOwn_own, lOwn_own, lsD_list, step_nx, step_cnt, step_brk, step_ret, step_rof, wm_reve, rev_l, rev_t, wm_opBL, repr_l, sort_l, sum_l, wm_enum, enum_l, enum_t, enumL_nil, wm_dic, wm_kvn, wm_kvc, seq_s, mulT_si, len_s, ord_c, str_i, ty_d, k_lb, k_li, k_ls, k_tb, k_ti, k_ts, k_db, k_di, k_ds, k_lt, k_tl,
  isi_1, tyOk_n, tyOk_b, tyOk_i, tyOk_s, tyOk_l, tyOk_t, ty_n, ty_b, ty_i, ty_s, ty_l, ty_t, k_nb, k_bb, k_ib, k_sb, k_ni, k_bi, k_ii, k_si, k_ns, k_bs, k_is, k_ss, k_ll, k_tt,
  Int.reduceNeg, Int.reducePow, Int.reduceLT, Int.reduceLE, Int.reduceAdd, Int.reduceSub, Int.reduceMul, Int.reduceToNat, Nat.reduceAdd, Nat.reduceLeDiff, Nat.reduceEqDiff, Int.reduceEq, reduceCtorEq, ws_grpL, empty_ownL, wo_TLst, wg_P, wg_end, wg_then, theng_nx, wg_yield, wm_callG, wo_runG, List.nil_append, backE, List.length_map]
      rfl
  simp only [backE, wipeE, wo_some, wo_none, wm_c, wm_var, wm_frz, wm_bin, wm_un, wm_tst, wm_tru, wm_truB, wm_chain, wm_and, wm_or, wm_not, wm_andV, wm_orV, wm_notV, wm_ifE, wm_nil, wm_cons, wm_app, wm_noP, wm_part, wm_sl, wm_pk, wm_io, wm_ix, wm_inB, wm_true, wm_seq, wm_rng1, wm_rng2,
  then_nx, then_ret, then_rof, then_brk, then_cnt, ws_next, ws_brk, ws_cnt, ws_seq, ws_if, ws_ret, ws_rof, ws_drop, ws_set, ws_own, ws_asg, wo_TN, wo_TNil, wo_TCons, wo_TTup, ws_ap, ws_setIx, ws_for, for_nil, turn_nx, turn_cnt, turn_brk, turn_ret, turn_rof, wm_lc, end_ret, end_nx, end_rof, end_io, ownOf_own, valOf_val, frz_val, frz_own, cOwn_own, peek_val, peek_own, by_val, by_own, canSet_none, canSet_val, canSet_own, lstOf_list,
  List.getElem?_cons_zero, List.getElem?_cons_succ, List.set_cons_zero, List.set_cons_succ, List.length_cons, List.length_nil, wo_ite, wo_bind, ↓reduceIte, and_true, true_and, and_self, Bool.false_eq_true, Bool.not_true, Bool.not_false, decide_eq_true_eq, decide_true, decide_false, oneInt_int, twoInts_int,
  add_ii, add_ll, add_tt, add_ss, sub_ii, mul_ii, mulS_ii, mod_ii, fdiv_ii, neg_i, le_ii, gt_ii, ge_ii, eqT_ii, eqT_ss, eqT_bb, eqT_nn, ltT_ii, ltT_ss, wo_eqD, wo_neD, wo_ltD, wo_inD, wo_ninD, is_n, isnt_n, is_bb, isnt_bb, isN, bOf_b, iOf_i, tru_b, tru_n, tru_i, tru_l, tru_t, seq_l, seq_t, tup_l, tup_t, lst_l, lst_t, len_l, len_t, int_i, int_b, abs_i, max_ii, min_ii, ix_li, ix_ti, cut_l, cut_t, flat_i, flat_b, flat_s, ix0, ix1, ix2, mkTup, mkLst,
  add2_ll, ws_par3, three_c, ws_grp, empty_own, lOwnD_own, wm_lcW, wm_getD, wm_ind, ix3, ix4, ix_m2, ix_m1, ix_p2, ix_p1, wm_newD, ws_setK, wm_get, wm_ixK, wm_sortN, ws_ext, dOwn_own, lOwn_own, lsD_list, step_nx, step_cnt, step_brk, step_ret, step_rof, wm_reve, rev_l, rev_t, wm_opBL, repr_l, sort_l, sum_l, wm_enum, enum_l, enum_t, enumL_nil, wm_dic, wm_kvn, wm_kvc, seq_s, mulT_si, len_s, ord_c, str_i, ty_d, k_lb, k_li, k_ls, k_tb, k_ti, k_ts, k_db, k_di, k_ds, k_lt, k_tl,
  isi_1, tyOk_n, tyOk_b, tyOk_i, tyOk_s, tyOk_l, tyOk_t, ty_n, ty_b, ty_i, ty_s, ty_l, ty_t, k_nb, k_bb, k_ib, k_sb, k_ni, k_bi, k_ii, k_si, k_ns, k_bs, k_is, k_ss, k_ll, k_tt,
  Int.reduceNeg, Int.reducePow, Int.reduceLT, Int.reduceLE, Int.reduceAdd, Int.reduceSub, Int.reduceMul, Int.reduceToNat, Nat.reduceAdd, Nat.reduceLeDiff, Nat.reduceEqDiff, Int.reduceEq, reduceCtorEq, ws_grpL, empty_ownL, wo_TLst, wg_P, wg_end, wg_then, theng_nx, wg_yield, wm_callG, wo_runG, List.nil_append, backE, List.length_map, List.length_range]
  refine ⟨⟨by omega, rfl⟩, ?_⟩
  refine lc_mapA (fun t : Nat => PyData.int (hC c t)) (fun t => .int (max 0 (hC c t - lowP p))) _ (fun t _ => ?_) ?_
  · simp only [backE, wipeE, wo_some, wo_none, wm_c, wm_var, wm_frz, wm_bin, wm_un, wm_tst, wm_tru, wm_truB, wm_chain, wm_and, wm_or, wm_not, wm_andV, wm_orV, wm_notV, wm_ifE, wm_nil, wm_cons, wm_app, wm_noP, wm_part, wm_sl, wm_pk, wm_io, wm_ix, wm_inB, wm_true, wm_seq, wm_rng1, wm_rng2,
  then_nx, then_ret, then_rof, then_brk, then_cnt, ws_next, ws_brk, ws_cnt, ws_seq, ws_if, ws_ret, ws_rof, ws_drop, ws_set, ws_own, ws_asg, wo_TN, wo_TNil, wo_TCons, wo_TTup, ws_ap, ws_setIx, ws_for, for_nil, turn_nx, turn_cnt, turn_brk, turn_ret, turn_rof, wm_lc, end_ret, end_nx, end_rof, end_io, ownOf_own, valOf_val, frz_val, frz_own, cOwn_own, peek_val, peek_own, by_val, by_own, canSet_none, canSet_val, canSet_own, lstOf_list,
  List.getElem?_cons_zero, List.getElem?_cons_succ, List.set_cons_zero, List.set_cons_succ, List.length_cons, List.length_nil, wo_ite, wo_bind, ↓reduceIte, and_true, true_and, and_self, Bool.false_eq_true, Bool.not_true, Bool.not_false, decide_eq_true_eq, decide_true, decide_false, oneInt_int, twoInts_int,
  add_ii, add_ll, add_tt, add_ss, sub_ii, mul_ii, mulS_ii, mod_ii, fdiv_ii, neg_i, le_ii, gt_ii, ge_ii, eqT_ii, eqT_ss, eqT_bb, eqT_nn, ltT_ii, ltT_ss, wo_eqD, wo_neD, wo_ltD, wo_inD, wo_ninD, is_n, isnt_n, is_bb, isnt_bb, isN, bOf_b, iOf_i, tru_b, tru_n, tru_i, tru_l, tru_t, seq_l, seq_t, tup_l, tup_t, lst_l, lst_t, len_l, len_t, int_i, int_b, abs_i, max_ii, min_ii, ix_li, ix_ti, cut_l, cut_t, flat_i, flat_b, flat_s, ix0, ix1, ix2, mkTup, mkLst,
  add2_ll, ws_par3, three_c, ws_grp, empty_own, lOwnD_own, wm_lcW, wm_getD, wm_ind, ix3, ix4, ix_m2, ix_m1, ix_p2, ix_p1, wm_newD, ws_setK, wm_get, wm_ixK, wm_sortN, ws_ext, dOwn_own, lOwn_own, lsD_list, step_nx, step_cnt, step_brk, step_ret, step_rof, wm_reve, rev_l, rev_t, wm_opBL, repr_l, sort_l, sum_l, wm_enum, enum_l, enum_t, enumL_nil, wm_dic, wm_kvn, wm_kvc, seq_s, mulT_si, len_s, ord_c, str_i, ty_d, k_lb, k_li, k_ls, k_tb, k_ti, k_ts, k_db, k_di, k_ds, k_lt, k_tl,
  isi_1, tyOk_n, tyOk_b, tyOk_i, tyOk_s, tyOk_l, tyOk_t, ty_n, ty_b, ty_i, ty_s, ty_l, ty_t, k_nb, k_bb, k_ib, k_sb, k_ni, k_bi, k_ii, k_si, k_ns, k_bs, k_is, k_ss, k_ll, k_tt,
  Int.reduceNeg, Int.reducePow, Int.reduceLT, Int.reduceLE, Int.reduceAdd, Int.reduceSub, Int.reduceMul, Int.reduceToNat, Nat.reduceAdd, Nat.reduceLeDiff, Nat.reduceEqDiff, Int.reduceEq, reduceCtorEq, ws_grpL, empty_ownL, wo_TLst, wg_P, wg_end, wg_then, theng_nx, wg_yield, wm_callG, wo_runG, List.nil_append, hmax]
    all_goals rfl
  obtain ⟨m, hm1, hm2⟩ := max1_rg h2 fun t => max 0 (hC c t - lowP p)
  have hab : sumR p (fun t => max 0 (hC c t - lowP p)) = aboveS p (hC c) := rfl
  have hgv : GV p ow c = canE p (hC c) (lC ow c) c.length (mvd ow c) := isG_uniq (gv_is p ow c) (canE_isG hp (sts_of ho hc hl))
  rw [hgv]
  have E1 : (1 < m ∨ 16 - lowP p * p < aboveS p (hC c)) → canE p (hC c) (lC ow c) c.length (mvd ow c) = none := fun z => by
    unfold canE
    rw [if_pos (z.imp (hm2 1).mp id)]
  have E2 : ¬ (1 < m ∨ 16 - lowP p * p < aboveS p (hC c)) → 16 - (c.length : Int) < sumR p (fun t => max 0 (lowP p - hC c t)) → canE p (hC c) (lC ow c) c.length (mvd ow c) = none := fun z y => by
    unfold canE
    rw [if_neg fun q => z (q.imp (hm2 1).mpr id), if_pos y]
  have E3 : ¬ (1 < m ∨ 16 - lowP p * p < aboveS p (hC c)) → ¬ 16 - (c.length : Int) < sumR p (fun t => max 0 (lowP p - hC c t)) → canE p (hC c) (lC ow c) c.length (mvd ow c) = some (mvd ow c + (16 - (c.length : Int)) - ((List.range p).foldl (stepK (lowP p) (hC c) (lC ow c)) (0, 16 - lowP p * p - aboveS p (hC c))).1) := fun z y => by
    unfold canE
    rw [if_neg fun q => z (q.imp (hm2 1).mpr id), if_neg y]
  generalize canE p (hC c) (lC ow c) c.length (mvd ow c) = E at E1 E2 E3 ⊢
  have hcast : ((16 - c.length : Nat) : Int) = 16 - (c.length : Int) := by omega
  simp only [backE, wipeE, wo_some, wo_none, wm_c, wm_var, wm_frz, wm_bin, wm_un, wm_tst, wm_tru, wm_truB, wm_chain, wm_and, wm_or, wm_not, wm_andV, wm_orV, wm_notV, wm_ifE, wm_nil, wm_cons, wm_app, wm_noP, wm_part, wm_sl, wm_pk, wm_io, wm_ix, wm_inB, wm_true, wm_seq, wm_rng1, wm_rng2,
  then_nx, then_ret, then_rof, then_brk, then_cnt, ws_next, ws_brk, ws_cnt, ws_seq, ws_if, ws_ret, ws_rof, ws_drop, ws_set, ws_own, ws_asg, wo_TN, wo_TNil, wo_TCons, wo_TTup, ws_ap, ws_setIx, ws_for, for_nil, turn_nx, turn_cnt, turn_brk, turn_ret, turn_rof, wm_lc, end_ret, end_nx, end_rof, end_io, ownOf_own, valOf_val, frz_val, frz_own, cOwn_own, peek_val, peek_own, by_val, by_own, canSet_none, canSet_val, canSet_own, lstOf_list,
  List.getElem?_cons_zero, List.getElem?_cons_succ, List.set_cons_zero, List.set_cons_succ, List.length_cons, List.length_nil, wo_ite, wo_bind, ↓reduceIte, and_true, true_and, and_self, Bool.false_eq_true, Bool.not_true, Bool.not_false, decide_eq_true_eq, decide_true, decide_false, oneInt_int, twoInts_int,
  add_ii, add_ll, add_tt, add_ss, sub_ii, mul_ii, mulS_ii, mod_ii, fdiv_ii, neg_i, le_ii, gt_ii, ge_ii, eqT_ii, eqT_ss, eqT_bb, eqT_nn, ltT_ii, ltT_ss, wo_eqD, wo_neD, wo_ltD, wo_inD, wo_ninD, is_n, isnt_n, is_bb, isnt_bb, isN, bOf_b, iOf_i, tru_b, tru_n, tru_i, tru_l, tru_t, seq_l, seq_t, tup_l, tup_t, lst_l, lst_t, len_l, len_t, int_i, int_b, abs_i, max_ii, min_ii, ix_li, ix_ti, cut_l, cut_t, flat_i, flat_b, flat_s, ix0, ix1, ix2, mkTup, mkLst,
  add2_ll, ws_par3, three_c, ws_grp, empty_own, lOwnD_own, wm_lcW, wm_getD, wm_ind, ix3, ix4, ix_m2, ix_m1, ix_p2, ix_p1, wm_newD, ws_setK, wm_get, wm_ixK, wm_sortN, ws_ext, dOwn_own, lOwn_own, lsD_list, step_nx, step_cnt, step_brk, step_ret, step_rof, wm_reve, rev_l, rev_t, wm_opBL, repr_l, sort_l, sum_l, wm_enum, enum_l, enum_t, enumL_nil, wm_dic, wm_kvn, wm_kvc, seq_s, mulT_si, len_s, ord_c, str_i, ty_d, k_lb, k_li, k_ls, k_tb, k_ti, k_ts, k_db, k_di, k_ds, k_lt, k_tl,
  isi_1, tyOk_n, tyOk_b, tyOk_i, tyOk_s, tyOk_l, tyOk_t, ty_n, ty_b, ty_i, ty_s, ty_l, ty_t, k_nb, k_bb, k_ib, k_sb, k_ni, k_bi, k_ii, k_si, k_ns, k_bs, k_is, k_ss, k_ll, k_tt,
  Int.reduceNeg, Int.reducePow, Int.reduceLT, Int.reduceLE, Int.reduceAdd, Int.reduceSub, Int.reduceMul, Int.reduceToNat, Nat.reduceAdd, Nat.reduceLeDiff, Nat.reduceEqDiff, Int.reduceEq, reduceCtorEq, ws_grpL, empty_ownL, wo_TLst, wg_P, wg_end, wg_then, theng_nx, wg_yield, wm_callG, wo_runG, List.nil_append, backE, hm1, nums_rg, sum_rg, hab, List.length_map, hrest, hcast]
  by_cases z1 : 1 < m
  · rw [if_pos z1, E1 (.inl z1)]
    rfl
  rw [if_neg z1]
  by_cases z2 : 16 - lowP p * p < aboveS p (hC c)
  · rw [if_pos z2, E1 (.inr z2)]
    rfl
  rw [if_neg z2]
  have z3 : ¬ (1 < m ∨ 16 - lowP p * p < aboveS p (hC c)) := fun q => q.elim z1 z2
  simp only [backE, wipeE, wo_some, wo_none, wm_c, wm_var, wm_frz, wm_bin, wm_un, wm_tst, wm_tru, wm_truB, wm_chain, wm_and, wm_or, wm_not, wm_andV, wm_orV, wm_notV, wm_ifE, wm_nil, wm_cons, wm_app, wm_noP, wm_part, wm_sl, wm_pk, wm_io, wm_ix, wm_inB, wm_true, wm_seq, wm_rng1, wm_rng2,
  then_nx, then_ret, then_rof, then_brk, then_cnt, ws_next, ws_brk, ws_cnt, ws_seq, ws_if, ws_ret, ws_rof, ws_drop, ws_set, ws_own, ws_asg, wo_TN, wo_TNil, wo_TCons, wo_TTup, ws_ap, ws_setIx, ws_for, for_nil, turn_nx, turn_cnt, turn_brk, turn_ret, turn_rof, wm_lc, end_ret, end_nx, end_rof, end_io, ownOf_own, valOf_val, frz_val, frz_own, cOwn_own, peek_val, peek_own, by_val, by_own, canSet_none, canSet_val, canSet_own, lstOf_list,
  List.getElem?_cons_zero, List.getElem?_cons_succ, List.set_cons_zero, List.set_cons_succ, List.length_cons, List.length_nil, wo_ite, wo_bind, ↓reduceIte, and_true, true_and, and_self, Bool.false_eq_true, Bool.not_true, Bool.not_false, decide_eq_true_eq, decide_true, decide_false, oneInt_int, twoInts_int,
  add_ii, add_ll, add_tt, add_ss, sub_ii, mul_ii, mulS_ii, mod_ii, fdiv_ii, neg_i, le_ii, gt_ii, ge_ii, eqT_ii, eqT_ss, eqT_bb, eqT_nn, ltT_ii, ltT_ss, wo_eqD, wo_neD, wo_ltD, wo_inD, wo_ninD, is_n, isnt_n, is_bb, isnt_bb, isN, bOf_b, iOf_i, tru_b, tru_n, tru_i, tru_l, tru_t, seq_l, seq_t, tup_l, tup_t, lst_l, lst_t, len_l, len_t, int_i, int_b, abs_i, max_ii, min_ii, ix_li, ix_ti, cut_l, cut_t, flat_i, flat_b, flat_s, ix0, ix1, ix2, mkTup, mkLst,
  add2_ll, ws_par3, three_c, ws_grp, empty_own, lOwnD_own, wm_lcW, wm_getD, wm_ind, ix3, ix4, ix_m2, ix_m1, ix_p2, ix_p1, wm_newD, ws_setK, wm_get, wm_ixK, wm_sortN, ws_ext, dOwn_own, lOwn_own, lsD_list, step_nx, step_cnt, step_brk, step_ret, step_rof, wm_reve, rev_l, rev_t, wm_opBL, repr_l, sort_l, sum_l, wm_enum, enum_l, enum_t, enumL_nil, wm_dic, wm_kvn, wm_kvc, seq_s, mulT_si, len_s, ord_c, str_i, ty_d, k_lb, k_li, k_ls, k_tb, k_ti, k_ts, k_db, k_di, k_ds, k_lt, k_tl,
  isi_1, tyOk_n, tyOk_b, tyOk_i, tyOk_s, tyOk_l, tyOk_t, ty_n, ty_b, ty_i, ty_s, ty_l, ty_t, k_nb, k_bb, k_ib, k_sb, k_ni, k_bi, k_ii, k_si, k_ns, k_bs, k_is, k_ss, k_ll, k_tt,
  Int.reduceNeg, Int.reducePow, Int.reduceLT, Int.reduceLE, Int.reduceAdd, Int.reduceSub, Int.reduceMul, Int.reduceToNat, Nat.reduceAdd, Nat.reduceLeDiff, Nat.reduceEqDiff, Int.reduceEq, reduceCtorEq, ws_grpL, empty_ownL, wo_TLst, wg_P, wg_end, wg_then, theng_nx, wg_yield, wm_callG, wo_runG, List.nil_append, List.length_map, List.length_range]
  refine ⟨⟨by omega, rfl⟩, ?_⟩
  refine lc_mapA (fun t : Nat => PyData.int (hC c t)) (fun t => .int (max 0 (lowP p - hC c t))) _ (fun t _ => ?_) ?_
  · simp only [backE, wipeE, wo_some, wo_none, wm_c, wm_var, wm_frz, wm_bin, wm_un, wm_tst, wm_tru, wm_truB, wm_chain, wm_and, wm_or, wm_not, wm_andV, wm_orV, wm_notV, wm_ifE, wm_nil, wm_cons, wm_app, wm_noP, wm_part, wm_sl, wm_pk, wm_io, wm_ix, wm_inB, wm_true, wm_seq, wm_rng1, wm_rng2,
  then_nx, then_ret, then_rof, then_brk, then_cnt, ws_next, ws_brk, ws_cnt, ws_seq, ws_if, ws_ret, ws_rof, ws_drop, ws_set, ws_own, ws_asg, wo_TN, wo_TNil, wo_TCons, wo_TTup, ws_ap, ws_setIx, ws_for, for_nil, turn_nx, turn_cnt, turn_brk, turn_ret, turn_rof, wm_lc, end_ret, end_nx, end_rof, end_io, ownOf_own, valOf_val, frz_val, frz_own, cOwn_own, peek_val, peek_own, by_val, by_own, canSet_none, canSet_val, canSet_own, lstOf_list,
  List.getElem?_cons_zero, List.getElem?_cons_succ, List.set_cons_zero, List.set_cons_succ, List.length_cons, List.length_nil, wo_ite, wo_bind, ↓reduceIte, and_true, true_and, and_self, Bool.false_eq_true, Bool.not_true, Bool.not_false, decide_eq_true_eq, decide_true, decide_false, oneInt_int, twoInts_int,
  add_ii, add_ll, add_tt, add_ss, sub_ii, mul_ii, mulS_ii, mod_ii, fdiv_ii, neg_i, le_ii, gt_ii, ge_ii, eqT_ii, eqT_ss, eqT_bb, eqT_nn, ltT_ii, ltT_ss, wo_eqD, wo_neD, wo_ltD, wo_inD, wo_ninD, is_n, isnt_n, is_bb, isnt_bb, isN, bOf_b, iOf_i, tru_b, tru_n, tru_i, tru_l, tru_t, seq_l, seq_t, tup_l, tup_t, lst_l, lst_t, len_l, len_t, int_i, int_b, abs_i, max_ii, min_ii, ix_li, ix_ti, cut_l, cut_t, flat_i, flat_b, flat_s, ix0, ix1, ix2, mkTup, mkLst,
  add2_ll, ws_par3, three_c, ws_grp, empty_own, lOwnD_own, wm_lcW, wm_getD, wm_ind, ix3, ix4, ix_m2, ix_m1, ix_p2, ix_p1, wm_newD, ws_setK, wm_get, wm_ixK, wm_sortN, ws_ext, dOwn_own, lOwn_own, lsD_list, step_nx, step_cnt, step_brk, step_ret, step_rof, wm_reve, rev_l, rev_t, wm_opBL, repr_l, sort_l, sum_l, wm_enum, enum_l, enum_t, enumL_nil, wm_dic, wm_kvn, wm_kvc, seq_s, mulT_si, len_s, ord_c, str_i, ty_d, k_lb, k_li, k_ls, k_tb, k_ti, k_ts, k_db, k_di, k_ds, k_lt, k_tl,
  isi_1, tyOk_n, tyOk_b, tyOk_i, tyOk_s, tyOk_l, tyOk_t, ty_n, ty_b, ty_i, ty_s, ty_l, ty_t, k_nb, k_bb, k_ib, k_sb, k_ni, k_bi, k_ii, k_si, k_ns, k_bs, k_is, k_ss, k_ll, k_tt,
  Int.reduceNeg, Int.reducePow, Int.reduceLT, Int.reduceLE, Int.reduceAdd, Int.reduceSub, Int.reduceMul, Int.reduceToNat, Nat.reduceAdd, Nat.reduceLeDiff, Nat.reduceEqDiff, Int.reduceEq, reduceCtorEq, ws_grpL, empty_ownL, wo_TLst, wg_P, wg_end, wg_then, theng_nx, wg_yield, wm_callG, wo_runG, List.nil_append, hmax]
    all_goals rfl
  simp only [backE, wipeE, wo_some, wo_none, wm_c, wm_var, wm_frz, wm_bin, wm_un, wm_tst, wm_tru, wm_truB, wm_chain, wm_and, wm_or, wm_not, wm_andV, wm_orV, wm_notV, wm_ifE, wm_nil, wm_cons, wm_app, wm_noP, wm_part, wm_sl, wm_pk, wm_io, wm_ix, wm_inB, wm_true, wm_seq, wm_rng1, wm_rng2,
  then_nx, then_ret, then_rof, then_brk, then_cnt, ws_next, ws_brk, ws_cnt, ws_seq, ws_if, ws_ret, ws_rof, ws_drop, ws_set, ws_own, ws_asg, wo_TN, wo_TNil, wo_TCons, wo_TTup, ws_ap, ws_setIx, ws_for, for_nil, turn_nx, turn_cnt, turn_brk, turn_ret, turn_rof, wm_lc, end_ret, end_nx, end_rof, end_io, ownOf_own, valOf_val, frz_val, frz_own, cOwn_own, peek_val, peek_own, by_val, by_own, canSet_none, canSet_val, canSet_own, lstOf_list,
  List.getElem?_cons_zero, List.getElem?_cons_succ, List.set_cons_zero, List.set_cons_succ, List.length_cons, List.length_nil, wo_ite, wo_bind, ↓reduceIte, and_true, true_and, and_self, Bool.false_eq_true, Bool.not_true, Bool.not_false, decide_eq_true_eq, decide_true, decide_false, oneInt_int, twoInts_int,
  add_ii, add_ll, add_tt, add_ss, sub_ii, mul_ii, mulS_ii, mod_ii, fdiv_ii, neg_i, le_ii, gt_ii, ge_ii, eqT_ii, eqT_ss, eqT_bb, eqT_nn, ltT_ii, ltT_ss, wo_eqD, wo_neD, wo_ltD, wo_inD, wo_ninD, is_n, isnt_n, is_bb, isnt_bb, isN, bOf_b, iOf_i, tru_b, tru_n, tru_i, tru_l, tru_t, seq_l, seq_t, tup_l, tup_t, lst_l, lst_t, len_l, len_t, int_i, int_b, abs_i, max_ii, min_ii, ix_li, ix_ti, cut_l, cut_t, flat_i, flat_b, flat_s, ix0, ix1, ix2, mkTup, mkLst,
  add2_ll, ws_par3, three_c, ws_grp, empty_own, lOwnD_own, wm_lcW, wm_getD, wm_ind, ix3, ix4, ix_m2, ix_m1, ix_p2, ix_p1, wm_newD, ws_setK, wm_get, wm_ixK, wm_sortN, ws_ext, dOwn_own, lOwn_own, lsD_list, step_nx, step_cnt, step_brk, step_ret, step_rof, wm_reve, rev_l, rev_t, wm_opBL, repr_l, sort_l, sum_l, wm_enum, enum_l, enum_t, enumL_nil, wm_dic, wm_kvn, wm_kvc, seq_s, mulT_si, len_s, ord_c, str_i, ty_d, k_lb, k_li, k_ls, k_tb, k_ti, k_ts, k_db, k_di, k_ds, k_lt, k_tl,
  isi_1, tyOk_n, tyOk_b, tyOk_i, tyOk_s, tyOk_l, tyOk_t, ty_n, ty_b, ty_i, ty_s, ty_l, ty_t, k_nb, k_bb, k_ib, k_sb, k_ni, k_bi, k_ii, k_si, k_ns, k_bs, k_is, k_ss, k_ll, k_tt,
  Int.reduceNeg, Int.reducePow, Int.reduceLT, Int.reduceLE, Int.reduceAdd, Int.reduceSub, Int.reduceMul, Int.reduceToNat, Nat.reduceAdd, Nat.reduceLeDiff, Nat.reduceEqDiff, Int.reduceEq, reduceCtorEq, ws_grpL, empty_ownL, wo_TLst, wg_P, wg_end, wg_then, theng_nx, wg_yield, wm_callG, wo_runG, List.nil_append, backE, nums_rg, sum_rg, hab]
  by_cases z4 : 16 - (c.length : Int) < sumR p (fun t => max 0 (lowP p - hC c t))
  · rw [if_pos z4, E2 z3 z4]
    rfl
  rw [if_neg z4, E3 z3 z4]
  rw [if_pos hp62, Int.toNat_natCast]
  refine ws_forA (fun i : Nat => PyData.int i) (fun q ρ => ∃ (k s : Int) (o13 o14 : Option Cell), (canSet (some o13) = some () ∧ canSet (some o14) = some ()) ∧ q.foldl (stepK (lowP p) (hC c) (lC ow c)) (0, 16 - lowP p * p - aboveS p (hC c)) = (k, s) ∧ ρ = [some (.val (.tuple (ow.map PyData.int))), some (.val (.tuple (c.map PyData.int))), some (.val (.int p)), some (.val (.int (lowP p))), some (.val (.int (16 - lowP p * p))), some (.val (.list ((List.range p).map fun t => PyData.int (hC c t)))), some (.val (.tuple ((ow.drop c.length).map PyData.int))), some (.own false (.list ((List.range p).map fun t => PyData.int (lC ow c t)))), some (.val (.list ((List.range p).map fun t => PyData.int (max 0 (hC c t - lowP p))))), some (.val (.int (16 - (c.length : Int)))), some (.val (.int (sumR p fun t => max 0 (lowP p - hC c t)))), some (.val (.int k)), some (.val (.int s)), o13, o14, none, none, none, none]) ⟨0, 16 - lowP p * p - aboveS p (hC c), none, none, ⟨rfl, rfl⟩, List.foldl_nil, by rfl⟩ ?_ ?_
  · rintro q t r ρ e ⟨k, s, o13, o14, ⟨h13, h14⟩, hq, rfl⟩
    have ht : t < p := List.mem_range.mp (by rw [e]; simp)
    have ix5 : ixA ((List.range p).map fun t => PyData.int (hC c t)) (t : Int) = some (.int (hC c t)) := by
      rw [ixA_nat, List.getElem?_map, List.getElem?_range ht]; rfl
    have ix7 : ixA ((List.range p).map fun t => PyData.int (lC ow c t)) (t : Int) = some (.int (lC ow c t)) := by
      rw [ixA_nat, List.getElem?_map, List.getElem?_range ht]; rfl
    have hst : (q ++ [t]).foldl (stepK (lowP p) (hC c) (lC ow c)) (0, 16 - lowP p * p - aboveS p (hC c)) = stepK (lowP p) (hC c) (lC ow c) (k, s) t := by
      rw [List.foldl_append, hq]; rfl
    rw [hst]
    by_cases d : 0 < s ∧ hC c t ≤ lowP p ∧ lowP p - hC c t < lC ow c t
    · have hmm : min (lC ow c t) (lowP p - hC c t) = lowP p - hC c t := by omega
      rw [stepK_yes d, hmm]
      simp only [backE, wipeE, wo_some, wo_none, wm_c, wm_var, wm_frz, wm_bin, wm_un, wm_tst, wm_tru, wm_truB, wm_chain, wm_and, wm_or, wm_not, wm_andV, wm_orV, wm_notV, wm_ifE, wm_nil, wm_cons, wm_app, wm_noP, wm_part, wm_sl, wm_pk, wm_io, wm_ix, wm_inB, wm_true, wm_seq, wm_rng1, wm_rng2,
  then_nx, then_ret, then_rof, then_brk, then_cnt, ws_next, ws_brk, ws_cnt, ws_seq, ws_if, ws_ret, ws_rof, ws_drop, ws_set, ws_own, ws_asg, wo_TN, wo_TNil, wo_TCons, wo_TTup, ws_ap, ws_setIx, ws_for, for_nil, turn_nx, turn_cnt, turn_brk, turn_ret, turn_rof, wm_lc, end_ret, end_nx, end_rof, end_io, ownOf_own, valOf_val, frz_val, frz_own, cOwn_own, peek_val, peek_own, by_val, by_own, canSet_none, canSet_val, canSet_own, lstOf_list,
  List.getElem?_cons_zero, List.getElem?_cons_succ, List.set_cons_zero, List.set_cons_succ, List.length_cons, List.length_nil, wo_ite, wo_bind, ↓reduceIte, and_true, true_and, and_self, Bool.false_eq_true, Bool.not_true, Bool.not_false, decide_eq_true_eq, decide_true, decide_false, oneInt_int, twoInts_int,
  add_ii, add_ll, add_tt, add_ss, sub_ii, mul_ii, mulS_ii, mod_ii, fdiv_ii, neg_i, le_ii, gt_ii, ge_ii, eqT_ii, eqT_ss, eqT_bb, eqT_nn, ltT_ii, ltT_ss, wo_eqD, wo_neD, wo_ltD, wo_inD, wo_ninD, is_n, isnt_n, is_bb, isnt_bb, isN, bOf_b, iOf_i, tru_b, tru_n, tru_i, tru_l, tru_t, seq_l, seq_t, tup_l, tup_t, lst_l, lst_t, len_l, len_t, int_i, int_b, abs_i, max_ii, min_ii, ix_li, ix_ti, cut_l, cut_t, flat_i, flat_b, flat_s, ix0, ix1, ix2, mkTup, mkLst,
  add2_ll, ws_par3, three_c, ws_grp, empty_own, lOwnD_own, wm_lcW, wm_getD, wm_ind, ix3, ix4, ix_m2, ix_m1, ix_p2, ix_p1, wm_newD, ws_setK, wm_get, wm_ixK, wm_sortN, ws_ext, dOwn_own, lOwn_own, lsD_list, step_nx, step_cnt, step_brk, step_ret, step_rof, wm_reve, rev_l, rev_t, wm_opBL, repr_l, sort_l, sum_l, wm_enum, enum_l, enum_t, enumL_nil, wm_dic, wm_kvn, wm_kvc, seq_s, mulT_si, len_s, ord_c, str_i, ty_d, k_lb, k_li, k_ls, k_tb, k_ti, k_ts, k_db, k_di, k_ds, k_lt, k_tl,
  isi_1, tyOk_n, tyOk_b, tyOk_i, tyOk_s, tyOk_l, tyOk_t, ty_n, ty_b, ty_i, ty_s, ty_l, ty_t, k_nb, k_bb, k_ib, k_sb, k_ni, k_bi, k_ii, k_si, k_ns, k_bs, k_is, k_ss, k_ll, k_tt,
  Int.reduceNeg, Int.reducePow, Int.reduceLT, Int.reduceLE, Int.reduceAdd, Int.reduceSub, Int.reduceMul, Int.reduceToNat, Nat.reduceAdd, Nat.reduceLeDiff, Nat.reduceEqDiff, Int.reduceEq, reduceCtorEq, ws_grpL, empty_ownL, wo_TLst, wg_P, wg_end, wg_then, theng_nx, wg_yield, wm_callG, wo_runG, List.nil_append, h13, h14, ix5, ix7, hmax, hmin, d.1, d.2.1, d.2.2]
      exact ⟨_, _, some (.val (.int (t : Int))), some (.val (.int (lowP p - hC c t))), ⟨rfl, rfl⟩, rfl, rfl⟩
    · rw [stepK_no d]
      simp only [backE, wipeE, wo_some, wo_none, wm_c, wm_var, wm_frz, wm_bin, wm_un, wm_tst, wm_tru, wm_truB, wm_chain, wm_and, wm_or, wm_not, wm_andV, wm_orV, wm_notV, wm_ifE, wm_nil, wm_cons, wm_app, wm_noP, wm_part, wm_sl, wm_pk, wm_io, wm_ix, wm_inB, wm_true, wm_seq, wm_rng1, wm_rng2,
  then_nx, then_ret, then_rof, then_brk, then_cnt, ws_next, ws_brk, ws_cnt, ws_seq, ws_if, ws_ret, ws_rof, ws_drop, ws_set, ws_own, ws_asg, wo_TN, wo_TNil, wo_TCons, wo_TTup, ws_ap, ws_setIx, ws_for, for_nil, turn_nx, turn_cnt, turn_brk, turn_ret, turn_rof, wm_lc, end_ret, end_nx, end_rof, end_io, ownOf_own, valOf_val, frz_val, frz_own, cOwn_own, peek_val, peek_own, by_val, by_own, canSet_none, canSet_val, canSet_own, lstOf_list,
  List.getElem?_cons_zero, List.getElem?_cons_succ, List.set_cons_zero, List.set_cons_succ, List.length_cons, List.length_nil, wo_ite, wo_bind, ↓reduceIte, and_true, true_and, and_self, Bool.false_eq_true, Bool.not_true, Bool.not_false, decide_eq_true_eq, decide_true, decide_false, oneInt_int, twoInts_int,
  add_ii, add_ll, add_tt, add_ss, sub_ii, mul_ii, mulS_ii, mod_ii, fdiv_ii, neg_i, le_ii, gt_ii, ge_ii, eqT_ii, eqT_ss, eqT_bb, eqT_nn, ltT_ii, ltT_ss, wo_eqD, wo_neD, wo_ltD, wo_inD, wo_ninD, is_n, isnt_n, is_bb, isnt_bb, isN, bOf_b, iOf_i, tru_b, tru_n, tru_i, tru_l, tru_t, seq_l, seq_t, tup_l, tup_t, lst_l, lst_t, len_l, len_t, int_i, int_b, abs_i, max_ii, min_ii, ix_li, ix_ti, cut_l, cut_t, flat_i, flat_b, flat_s, ix0, ix1, ix2, mkTup, mkLst,
  add2_ll, ws_par3, three_c, ws_grp, empty_own, lOwnD_own, wm_lcW, wm_getD, wm_ind, ix3, ix4, ix_m2, ix_m1, ix_p2, ix_p1, wm_newD, ws_setK, wm_get, wm_ixK, wm_sortN, ws_ext, dOwn_own, lOwn_own, lsD_list, step_nx, step_cnt, step_brk, step_ret, step_rof, wm_reve, rev_l, rev_t, wm_opBL, repr_l, sort_l, sum_l, wm_enum, enum_l, enum_t, enumL_nil, wm_dic, wm_kvn, wm_kvc, seq_s, mulT_si, len_s, ord_c, str_i, ty_d, k_lb, k_li, k_ls, k_tb, k_ti, k_ts, k_db, k_di, k_ds, k_lt, k_tl,
  isi_1, tyOk_n, tyOk_b, tyOk_i, tyOk_s, tyOk_l, tyOk_t, ty_n, ty_b, ty_i, ty_s, ty_l, ty_t, k_nb, k_bb, k_ib, k_sb, k_ni, k_bi, k_ii, k_si, k_ns, k_bs, k_is, k_ss, k_ll, k_tt,
  Int.reduceNeg, Int.reducePow, Int.reduceLT, Int.reduceLE, Int.reduceAdd, Int.reduceSub, Int.reduceMul, Int.reduceToNat, Nat.reduceAdd, Nat.reduceLeDiff, Nat.reduceEqDiff, Int.reduceEq, reduceCtorEq, ws_grpL, empty_ownL, wo_TLst, wg_P, wg_end, wg_then, theng_nx, wg_yield, wm_callG, wo_runG, List.nil_append, h13, h14, ix5, ix7, hmax, hmin]
      have last : ∀ k s : Int, ∃ (k' s' : Int) (o13 o14 : Option Cell), (canSet (some o13) = some () ∧ canSet (some o14) = some ()) ∧ (k, s) = (k', s') ∧ [some (.val (.tuple (ow.map PyData.int))), some (.val (.tuple (c.map PyData.int))), some (.val (.int p)), some (.val (.int (lowP p))), some (.val (.int (16 - lowP p * p))), some (.val (.list ((List.range p).map fun t => PyData.int (hC c t)))), some (.val (.tuple ((ow.drop c.length).map PyData.int))), some (.own false (.list ((List.range p).map fun t => PyData.int (lC ow c t)))), some (.val (.list ((List.range p).map fun t => PyData.int (max 0 (hC c t - lowP p))))), some (.val (.int (16 - (c.length : Int)))), some (.val (.int (sumR p fun t => max 0 (lowP p - hC c t)))), some (.val (.int k)), some (.val (.int s)), some (.val (.int (t : Int))), some (.val (.int (lowP p - hC c t))), none, none, none, none] = [some (.val (.tuple (ow.map PyData.int))), some (.val (.tuple (c.map PyData.int))), some (.val (.int p)), some (.val (.int (lowP p))), some (.val (.int (16 - lowP p * p))), some (.val (.list ((List.range p).map fun t => PyData.int (hC c t)))), some (.val (.tuple ((ow.drop c.length).map PyData.int))), some (.own false (.list ((List.range p).map fun t => PyData.int (lC ow c t)))), some (.val (.list ((List.range p).map fun t => PyData.int (max 0 (hC c t - lowP p))))), some (.val (.int (16 - (c.length : Int)))), some (.val (.int (sumR p fun t => max 0 (lowP p - hC c t)))), some (.val (.int k')), some (.val (.int s')), o13, o14, (none : Option Cell), none, none, none] := fun k s => ⟨k, s, some (.val (.int (t : Int))), some (.val (.int (lowP p - hC c t))), ⟨rfl, rfl⟩, rfl, rfl⟩
      by_cases a1 : 0 < s
      · rw [if_pos a1]
        by_cases a2 : hC c t ≤ lowP p
        · rw [if_pos a2]
          by_cases a3 : lowP p - hC c t < lC ow c t
          · exact absurd ⟨a1, a2, a3⟩ d
          · rw [if_neg a3]
            exact last _ _
        · rw [if_neg a2]
          exact last _ _
      · rw [if_neg a1]
        exact last _ _
  · rintro ρ' ⟨k, s, o13, o14, ⟨h13, h14⟩, hq, rfl⟩
    rw [hq]
    simp only [backE, wipeE, wo_some, wo_none, wm_c, wm_var, wm_frz, wm_bin, wm_un, wm_tst, wm_tru, wm_truB, wm_chain, wm_and, wm_or, wm_not, wm_andV, wm_orV, wm_notV, wm_ifE, wm_nil, wm_cons, wm_app, wm_noP, wm_part, wm_sl, wm_pk, wm_io, wm_ix, wm_inB, wm_true, wm_seq, wm_rng1, wm_rng2,
  then_nx, then_ret, then_rof, then_brk, then_cnt, ws_next, ws_brk, ws_cnt, ws_seq, ws_if, ws_ret, ws_rof, ws_drop, ws_set, ws_own, ws_asg, wo_TN, wo_TNil, wo_TCons, wo_TTup, ws_ap, ws_setIx, ws_for, for_nil, turn_nx, turn_cnt, turn_brk, turn_ret, turn_rof, wm_lc, end_ret, end_nx, end_rof, end_io, ownOf_own, valOf_val, frz_val, frz_own, cOwn_own, peek_val, peek_own, by_val, by_own, canSet_none, canSet_val, canSet_own, lstOf_list,
  List.getElem?_cons_zero, List.getElem?_cons_succ, List.set_cons_zero, List.set_cons_succ, List.length_cons, List.length_nil, wo_ite, wo_bind, ↓reduceIte, and_true, true_and, and_self, Bool.false_eq_true, Bool.not_true, Bool.not_false, decide_eq_true_eq, decide_true, decide_false, oneInt_int, twoInts_int,
  add_ii, add_ll, add_tt, add_ss, sub_ii, mul_ii, mulS_ii, mod_ii, fdiv_ii, neg_i, le_ii, gt_ii, ge_ii, eqT_ii, eqT_ss, eqT_bb, eqT_nn, ltT_ii, ltT_ss, wo_eqD, wo_neD, wo_ltD, wo_inD, wo_ninD, is_n, isnt_n, is_bb, isnt_bb, isN, bOf_b, iOf_i, tru_b, tru_n, tru_i, tru_l, tru_t, seq_l, seq_t, tup_l, tup_t, lst_l, lst_t, len_l, len_t, int_i, int_b, abs_i, max_ii, min_ii, ix_li, ix_ti, cut_l, cut_t, flat_i, flat_b, flat_s, ix0, ix1, ix2, mkTup, mkLst,
  add2_ll, ws_par3, three_c, ws_grp, empty_own, lOwnD_own, wm_lcW, wm_getD, wm_ind, ix3, ix4, ix_m2, ix_m1, ix_p2, ix_p1, wm_newD, ws_setK, wm_get, wm_ixK, wm_sortN, ws_ext, dOwn_own, lOwn_own, lsD_list, step_nx, step_cnt, step_brk, step_ret, step_rof, wm_reve, rev_l, rev_t, wm_opBL, repr_l, sort_l, sum_l, wm_enum, enum_l, enum_t, enumL_nil, wm_dic, wm_kvn, wm_kvc, seq_s, mulT_si, len_s, ord_c, str_i, ty_d, k_lb, k_li, k_ls, k_tb, k_ti, k_ts, k_db, k_di, k_ds, k_lt, k_tl,
  isi_1, tyOk_n, tyOk_b, tyOk_i, tyOk_s, tyOk_l, tyOk_t, ty_n, ty_b, ty_i, ty_s, ty_l, ty_t, k_nb, k_bb, k_ib, k_sb, k_ni, k_bi, k_ii, k_si, k_ns, k_bs, k_is, k_ss, k_ll, k_tt,
  Int.reduceNeg, Int.reducePow, Int.reduceLT, Int.reduceLE, Int.reduceAdd, Int.reduceSub, Int.reduceMul, Int.reduceToNat, Nat.reduceAdd, Nat.reduceLeDiff, Nat.reduceEqDiff, Int.reduceEq, reduceCtorEq, ws_grpL, empty_ownL, wo_TLst, wg_P, wg_end, wg_then, theng_nx, wg_yield, wm_callG, wo_runG, List.nil_append, enum_ints, List.length_map, List.length_range]
    refine ⟨⟨by omega, rfl⟩, ?_⟩
    refine lc_filterA (fun k : Nat => PyData.tuple [.int (k : Int), .int ((c[k]?).getD 0)]) (fun k : Nat => PyData.int (k : Int)) (fun k => decide (ow[k]? ≠ c[k]?)) _ (fun j hj => ?_) ?_
    · have hj := List.mem_range.mp hj
      have eo : ow[j]? = some ow[j] := List.getElem?_eq_getElem (by omega)
      have ec : c[j]? = some c[j] := List.getElem?_eq_getElem hj
      have ix : ixA (ow.map PyData.int) (j : Int) = some (.int ow[j]) := by
        rw [ixA_nat, List.getElem?_map, eo]; rfl
      rw [eo, ec]
      show Wo (gTTup 2 _ (.tuple [.int (j : Int), .int c[j]]) _) _
      simp only [backE, wipeE, wo_some, wo_none, wm_c, wm_var, wm_frz, wm_bin, wm_un, wm_tst, wm_tru, wm_truB, wm_chain, wm_and, wm_or, wm_not, wm_andV, wm_orV, wm_notV, wm_ifE, wm_nil, wm_cons, wm_app, wm_noP, wm_part, wm_sl, wm_pk, wm_io, wm_ix, wm_inB, wm_true, wm_seq, wm_rng1, wm_rng2,
  then_nx, then_ret, then_rof, then_brk, then_cnt, ws_next, ws_brk, ws_cnt, ws_seq, ws_if, ws_ret, ws_rof, ws_drop, ws_set, ws_own, ws_asg, wo_TN, wo_TNil, wo_TCons, wo_TTup, ws_ap, ws_setIx, ws_for, for_nil, turn_nx, turn_cnt, turn_brk, turn_ret, turn_rof, wm_lc, end_ret, end_nx, end_rof, end_io, ownOf_own, valOf_val, frz_val, frz_own, cOwn_own, peek_val, peek_own, by_val, by_own, canSet_none, canSet_val, canSet_own, lstOf_list,
  List.getElem?_cons_zero, List.getElem?_cons_succ, List.set_cons_zero, List.set_cons_succ, List.length_cons, List.length_nil, wo_ite, wo_bind, ↓reduceIte, and_true, true_and, and_self, Bool.false_eq_true, Bool.not_true, Bool.not_false, decide_eq_true_eq, decide_true, decide_false, oneInt_int, twoInts_int,
  add_ii, add_ll, add_tt, add_ss, sub_ii, mul_ii, mulS_ii, mod_ii, fdiv_ii, neg_i, le_ii, gt_ii, ge_ii, eqT_ii, eqT_ss, eqT_bb, eqT_nn, ltT_ii, ltT_ss, wo_eqD, wo_neD, wo_ltD, wo_inD, wo_ninD, is_n, isnt_n, is_bb, isnt_bb, isN, bOf_b, iOf_i, tru_b, tru_n, tru_i, tru_l, tru_t, seq_l, seq_t, tup_l, tup_t, lst_l, lst_t, len_l, len_t, int_i, int_b, abs_i, max_ii, min_ii, ix_li, ix_ti, cut_l, cut_t, flat_i, flat_b, flat_s, ix0, ix1, ix2, mkTup, mkLst,
  add2_ll, ws_par3, three_c, ws_grp, empty_own, lOwnD_own, wm_lcW, wm_getD, wm_ind, ix3, ix4, ix_m2, ix_m1, ix_p2, ix_p1, wm_newD, ws_setK, wm_get, wm_ixK, wm_sortN, ws_ext, dOwn_own, lOwn_own, lsD_list, step_nx, step_cnt, step_brk, step_ret, step_rof, wm_reve, rev_l, rev_t, wm_opBL, repr_l, sort_l, sum_l, wm_enum, enum_l, enum_t, enumL_nil, wm_dic, wm_kvn, wm_kvc, seq_s, mulT_si, len_s, ord_c, str_i, ty_d, k_lb, k_li, k_ls, k_tb, k_ti, k_ts, k_db, k_di, k_ds, k_lt, k_tl,
  isi_1, tyOk_n, tyOk_b, tyOk_i, tyOk_s, tyOk_l, tyOk_t, ty_n, ty_b, ty_i, ty_s, ty_l, ty_t, k_nb, k_bb, k_ib, k_sb, k_ni, k_bi, k_ii, k_si, k_ns, k_bs, k_is, k_ss, k_ll, k_tt,
  Int.reduceNeg, Int.reducePow, Int.reduceLT, Int.reduceLE, Int.reduceAdd, Int.reduceSub, Int.reduceMul, Int.reduceToNat, Nat.reduceAdd, Nat.reduceLeDiff, Nat.reduceEqDiff, Int.reduceEq, reduceCtorEq, ws_grpL, empty_ownL, wo_TLst, wg_P, wg_end, wg_then, theng_nx, wg_yield, wm_callG, wo_runG, List.nil_append, ix]
      exact ⟨by simp, fun _ => trivial, fun _ => trivial⟩
    · simp only [backE, wipeE, wo_some, wo_none, wm_c, wm_var, wm_frz, wm_bin, wm_un, wm_tst, wm_tru, wm_truB, wm_chain, wm_and, wm_or, wm_not, wm_andV, wm_orV, wm_notV, wm_ifE, wm_nil, wm_cons, wm_app, wm_noP, wm_part, wm_sl, wm_pk, wm_io, wm_ix, wm_inB, wm_true, wm_seq, wm_rng1, wm_rng2,
  then_nx, then_ret, then_rof, then_brk, then_cnt, ws_next, ws_brk, ws_cnt, ws_seq, ws_if, ws_ret, ws_rof, ws_drop, ws_set, ws_own, ws_asg, wo_TN, wo_TNil, wo_TCons, wo_TTup, ws_ap, ws_setIx, ws_for, for_nil, turn_nx, turn_cnt, turn_brk, turn_ret, turn_rof, wm_lc, end_ret, end_nx, end_rof, end_io, ownOf_own, valOf_val, frz_val, frz_own, cOwn_own, peek_val, peek_own, by_val, by_own, canSet_none, canSet_val, canSet_own, lstOf_list,
  List.getElem?_cons_zero, List.getElem?_cons_succ, List.set_cons_zero, List.set_cons_succ, List.length_cons, List.length_nil, wo_ite, wo_bind, ↓reduceIte, and_true, true_and, and_self, Bool.false_eq_true, Bool.not_true, Bool.not_false, decide_eq_true_eq, decide_true, decide_false, oneInt_int, twoInts_int,
  add_ii, add_ll, add_tt, add_ss, sub_ii, mul_ii, mulS_ii, mod_ii, fdiv_ii, neg_i, le_ii, gt_ii, ge_ii, eqT_ii, eqT_ss, eqT_bb, eqT_nn, ltT_ii, ltT_ss, wo_eqD, wo_neD, wo_ltD, wo_inD, wo_ninD, is_n, isnt_n, is_bb, isnt_bb, isN, bOf_b, iOf_i, tru_b, tru_n, tru_i, tru_l, tru_t, seq_l, seq_t, tup_l, tup_t, lst_l, lst_t, len_l, len_t, int_i, int_b, abs_i, max_ii, min_ii, ix_li, ix_ti, cut_l, cut_t, flat_i, flat_b, flat_s, ix0, ix1, ix2, mkTup, mkLst,
  add2_ll, ws_par3, three_c, ws_grp, empty_own, lOwnD_own, wm_lcW, wm_getD, wm_ind, ix3, ix4, ix_m2, ix_m1, ix_p2, ix_p1, wm_newD, ws_setK, wm_get, wm_ixK, wm_sortN, ws_ext, dOwn_own, lOwn_own, lsD_list, step_nx, step_cnt, step_brk, step_ret, step_rof, wm_reve, rev_l, rev_t, wm_opBL, repr_l, sort_l, sum_l, wm_enum, enum_l, enum_t, enumL_nil, wm_dic, wm_kvn, wm_kvc, seq_s, mulT_si, len_s, ord_c, str_i, ty_d, k_lb, k_li, k_ls, k_tb, k_ti, k_ts, k_db, k_di, k_ds, k_lt, k_tl,
  isi_1, tyOk_n, tyOk_b, tyOk_i, tyOk_s, tyOk_l, tyOk_t, ty_n, ty_b, ty_i, ty_s, ty_l, ty_t, k_nb, k_bb, k_ib, k_sb, k_ni, k_bi, k_ii, k_si, k_ns, k_bs, k_is, k_ss, k_ll, k_tt,
  Int.reduceNeg, Int.reducePow, Int.reduceLT, Int.reduceLE, Int.reduceAdd, Int.reduceSub, Int.reduceMul, Int.reduceToNat, Nat.reduceAdd, Nat.reduceLeDiff, Nat.reduceEqDiff, Int.reduceEq, reduceCtorEq, ws_grpL, empty_ownL, wo_TLst, wg_P, wg_end, wg_then, theng_nx, wg_yield, wm_callG, wo_runG, List.nil_append, backE, List.length_map]
      show PyData.int (mvd ow c + (16 - (c.length : Int)) - k) = _
      rfl
theorem sp_fewest {p : Nat} (hp : four p) {ow c : List Int} (ho : ow.length = 16) (hl : c.length ≤ 16) : f__law_fewest [intsT ow, intsL c, .int p] = some (optD (GV p ow c)) := by
  obtain ⟨h1, h2, h3⟩ := four_low hp
  have hp62 : small62 ((p : Nat) : Int) = true := small_nat (by omega)
  have hc62 : small62 ((c.length : Nat) : Int) = true := small_nat (by omega)
  rw [← wo_eq]
  unfold f__law_fewest
  rw [wo_runV]
  show Ws g__law_fewest [some (.val (intsT ow)), some (.val (intsL c)), some (.val (.int p)), none, none, none, none, none, none, none, none, none, none, none] _
  unfold g__law_fewest
  have hlog : (Int.natAbs (lowP p)).log2 + (Int.natAbs (p : Int)).log2 < 1000000 := by
    rcases hp with rfl | rfl | rfl | rfl <;> decide
  have hfd : (0 : Int) < p ∧ ((p : Nat) : Int) < 18446744073709551616 := ⟨by omega, by omega⟩
  have hrest : (ow.drop c.length).length = 16 - c.length := by rw [List.length_drop, ho]
  have hmin : ∀ i j : Int, (if j < i then j else i) = min i j := fun i j => by split <;> omega
  simp only [backE, wipeE, wo_some, wo_none, wm_c, wm_var, wm_frz, wm_bin, wm_un, wm_tst, wm_tru, wm_truB, wm_chain, wm_and, wm_or, wm_not, wm_andV, wm_orV, wm_notV, wm_ifE, wm_nil, wm_cons, wm_app, wm_noP, wm_part, wm_sl, wm_pk, wm_io, wm_ix, wm_inB, wm_true, wm_seq, wm_rng1, wm_rng2,
  then_nx, then_ret, then_rof, then_brk, then_cnt, ws_next, ws_brk, ws_cnt, ws_seq, ws_if, ws_ret, ws_rof, ws_drop, ws_set, ws_own, ws_asg, wo_TN, wo_TNil, wo_TCons, wo_TTup, ws_ap, ws_setIx, ws_for, for_nil, turn_nx, turn_cnt, turn_brk, turn_ret, turn_rof, wm_lc, end_ret, end_nx, end_rof, end_io, ownOf_own, valOf_val, frz_val, frz_own, cOwn_own, peek_val, peek_own, by_val, by_own, canSet_none, canSet_val, canSet_own, lstOf_list,
  List.getElem?_cons_zero, List.getElem?_cons_succ, List.set_cons_zero, List.set_cons_succ, List.length_cons, List.length_nil, wo_ite, wo_bind, ↓reduceIte, and_true, true_and, and_self, Bool.false_eq_true, Bool.not_true, Bool.not_false, decide_eq_true_eq, decide_true, decide_false, oneInt_int, twoInts_int,
  add_ii, add_ll, add_tt, add_ss, sub_ii, mul_ii, mulS_ii, mod_ii, fdiv_ii, neg_i, le_ii, gt_ii, ge_ii, eqT_ii, eqT_ss, eqT_bb, eqT_nn, ltT_ii, ltT_ss, wo_eqD, wo_neD, wo_ltD, wo_inD, wo_ninD, is_n, isnt_n, is_bb, isnt_bb, isN, bOf_b, iOf_i, tru_b, tru_n, tru_i, tru_l, tru_t, seq_l, seq_t, tup_l, tup_t, lst_l, lst_t, len_l, len_t, int_i, int_b, abs_i, max_ii, min_ii, ix_li, ix_ti, cut_l, cut_t, flat_i, flat_b, flat_s, ix0, ix1, ix2, mkTup, mkLst,
  add2_ll, ws_par3, three_c, ws_grp, empty_own, lOwnD_own, wm_lcW, wm_getD, wm_ind, ix3, ix4, ix_m2, ix_m1, ix_p2, ix_p1, wm_newD, ws_setK, wm_get, wm_ixK, wm_sortN, ws_ext, dOwn_own, lOwn_own, lsD_list, step_nx, step_cnt, step_brk, step_ret, step_rof, wm_reve, rev_l, rev_t, wm_opBL, repr_l, sort_l, sum_l, wm_enum, enum_l, enum_t, enumL_nil, wm_dic, wm_kvn, wm_kvc, seq_s, mulT_si, len_s, ord_c, str_i, ty_d, k_lb, k_li, k_ls, k_tb, k_ti, k_ts, k_db, k_di, k_ds, k_lt, k_tl,
  isi_1, tyOk_n, tyOk_b, tyOk_i, tyOk_s, tyOk_l, tyOk_t, ty_n, ty_b, ty_i, ty_s, ty_l, ty_t, k_nb, k_bb, k_ib, k_sb, k_ni, k_bi, k_ii, k_si, k_ns, k_bs, k_is, k_ss, k_ll, k_tt,
  Int.reduceNeg, Int.reducePow, Int.reduceLT, Int.reduceLE, Int.reduceAdd, Int.reduceSub, Int.reduceMul, Int.reduceToNat, Nat.reduceAdd, Nat.reduceLeDiff, Nat.reduceEqDiff, Int.reduceEq, reduceCtorEq, ws_grpL, empty_ownL, wo_TLst, wg_P, wg_end, wg_then, theng_nx, wg_yield, wm_callG, wo_runG, List.nil_append, intsT, intsL, h1, hlog, hfd, sp_choose hp]
  refine ws_forA intsL (fun q ρ => ∃ (o5 o6 o7 o8 o9 o10 o11 : Option Cell), (canSet (some o5) = some () ∧ canSet (some o6) = some () ∧ canSet (some o7) = some () ∧ canSet (some o8) = some () ∧ canSet (some o9) = some () ∧ canSet (some o10) = some () ∧ canSet (some o11) = some ()) ∧ ρ = [some (.val (.tuple (ow.map PyData.int))), some (.val (.list (c.map PyData.int))), some (.val (.int p)), some (.val (.int (lowP p))), some (.val (optD (q.foldl (bestS p (hC c) (lC ow c) c.length (mvd ow c)) none))), o5, o6, o7, o8, o9, o10, o11, none, none]) ⟨none, none, none, none, none, none, none, ⟨rfl, rfl, rfl, rfl, rfl, rfl, rfl⟩, rfl⟩ ?_ ?_
  · rintro q R r ρ e ⟨o5, o6, o7, o8, o9, o10, o11, ⟨h5, h6, h7, h8, h9, h10, h11⟩, rfl⟩
    have hq : (q ++ [R]).foldl (bestS p (hC c) (lC ow c) c.length (mvd ow c)) none = bestS p (hC c) (lC ow c) c.length (mvd ow c) (q.foldl (bestS p (hC c) (lC ow c) c.length (mvd ow c)) none) R := by
      rw [List.foldl_append]; rfl
    rw [hq]
    generalize q.foldl (bestS p (hC c) (lC ow c) c.length (mvd ow c)) none = b
    simp only [backE, wipeE, wo_some, wo_none, wm_c, wm_var, wm_frz, wm_bin, wm_un, wm_tst, wm_tru, wm_truB, wm_chain, wm_and, wm_or, wm_not, wm_andV, wm_orV, wm_notV, wm_ifE, wm_nil, wm_cons, wm_app, wm_noP, wm_part, wm_sl, wm_pk, wm_io, wm_ix, wm_inB, wm_true, wm_seq, wm_rng1, wm_rng2,
  then_nx, then_ret, then_rof, then_brk, then_cnt, ws_next, ws_brk, ws_cnt, ws_seq, ws_if, ws_ret, ws_rof, ws_drop, ws_set, ws_own, ws_asg, wo_TN, wo_TNil, wo_TCons, wo_TTup, ws_ap, ws_setIx, ws_for, for_nil, turn_nx, turn_cnt, turn_brk, turn_ret, turn_rof, wm_lc, end_ret, end_nx, end_rof, end_io, ownOf_own, valOf_val, frz_val, frz_own, cOwn_own, peek_val, peek_own, by_val, by_own, canSet_none, canSet_val, canSet_own, lstOf_list,
  List.getElem?_cons_zero, List.getElem?_cons_succ, List.set_cons_zero, List.set_cons_succ, List.length_cons, List.length_nil, wo_ite, wo_bind, ↓reduceIte, and_true, true_and, and_self, Bool.false_eq_true, Bool.not_true, Bool.not_false, decide_eq_true_eq, decide_true, decide_false, oneInt_int, twoInts_int,
  add_ii, add_ll, add_tt, add_ss, sub_ii, mul_ii, mulS_ii, mod_ii, fdiv_ii, neg_i, le_ii, gt_ii, ge_ii, eqT_ii, eqT_ss, eqT_bb, eqT_nn, ltT_ii, ltT_ss, wo_eqD, wo_neD, wo_ltD, wo_inD, wo_ninD, is_n, isnt_n, is_bb, isnt_bb, isN, bOf_b, iOf_i, tru_b, tru_n, tru_i, tru_l, tru_t, seq_l, seq_t, tup_l, tup_t, lst_l, lst_t, len_l, len_t, int_i, int_b, abs_i, max_ii, min_ii, ix_li, ix_ti, cut_l, cut_t, flat_i, flat_b, flat_s, ix0, ix1, ix2, mkTup, mkLst,
  add2_ll, ws_par3, three_c, ws_grp, empty_own, lOwnD_own, wm_lcW, wm_getD, wm_ind, ix3, ix4, ix_m2, ix_m1, ix_p2, ix_p1, wm_newD, ws_setK, wm_get, wm_ixK, wm_sortN, ws_ext, dOwn_own, lOwn_own, lsD_list, step_nx, step_cnt, step_brk, step_ret, step_rof, wm_reve, rev_l, rev_t, wm_opBL, repr_l, sort_l, sum_l, wm_enum, enum_l, enum_t, enumL_nil, wm_dic, wm_kvn, wm_kvc, seq_s, mulT_si, len_s, ord_c, str_i, ty_d, k_lb, k_li, k_ls, k_tb, k_ti, k_ts, k_db, k_di, k_ds, k_lt, k_tl,
  isi_1, tyOk_n, tyOk_b, tyOk_i, tyOk_s, tyOk_l, tyOk_t, ty_n, ty_b, ty_i, ty_s, ty_l, ty_t, k_nb, k_bb, k_ib, k_sb, k_ni, k_bi, k_ii, k_si, k_ns, k_bs, k_is, k_ss, k_ll, k_tt,
  Int.reduceNeg, Int.reducePow, Int.reduceLT, Int.reduceLE, Int.reduceAdd, Int.reduceSub, Int.reduceMul, Int.reduceToNat, Nat.reduceAdd, Nat.reduceLeDiff, Nat.reduceEqDiff, Int.reduceEq, reduceCtorEq, ws_grpL, empty_ownL, wo_TLst, wg_P, wg_end, wg_then, theng_nx, wg_yield, wm_callG, wo_runG, List.nil_append, intsL, h5, h6, h7, hp62, rng_map]
    rw [Int.toNat_natCast]
    refine ws_forA (fun i : Nat => PyData.int i) (fun q ρ => ∃ (o8 o9 o10 : Option Cell), (canSet (some o8) = some () ∧ canSet (some o9) = some () ∧ canSet (some o10) = some ()) ∧ ρ = [some (.val (.tuple (ow.map PyData.int))), some (.val (.list (c.map PyData.int))), some (.val (.int p)), some (.val (.int (lowP p))), some (.val (optD b)), some (.val (.list (R.map PyData.int))), some (.val (.int (q.map fun s => min (roomR p R (hC c) s) (lC ow c s)).sum)), some (.val (.bool (q.all fun s => decide (0 ≤ roomR p R (hC c) s)))), o8, o9, o10, o11, none, none]) ⟨o8, o9, o10, ⟨h8, h9, h10⟩, rfl⟩ ?_ ?_
    · clear h8 h9 h10
      rintro q t r ρ e' ⟨o8, o9, o10, ⟨h8, h9, h10⟩, rfl⟩
      have hone : lowP p + (if decide ((t : Int) ∈ R) = true then (1 : Int) else 0) = lowP p + inRI R t := by
        unfold inRI
        by_cases z : (t : Int) ∈ R
        · simp [z]
        · simp [z]
      simp only [backE, wipeE, wo_some, wo_none, wm_c, wm_var, wm_frz, wm_bin, wm_un, wm_tst, wm_tru, wm_truB, wm_chain, wm_and, wm_or, wm_not, wm_andV, wm_orV, wm_notV, wm_ifE, wm_nil, wm_cons, wm_app, wm_noP, wm_part, wm_sl, wm_pk, wm_io, wm_ix, wm_inB, wm_true, wm_seq, wm_rng1, wm_rng2,
  then_nx, then_ret, then_rof, then_brk, then_cnt, ws_next, ws_brk, ws_cnt, ws_seq, ws_if, ws_ret, ws_rof, ws_drop, ws_set, ws_own, ws_asg, wo_TN, wo_TNil, wo_TCons, wo_TTup, ws_ap, ws_setIx, ws_for, for_nil, turn_nx, turn_cnt, turn_brk, turn_ret, turn_rof, wm_lc, end_ret, end_nx, end_rof, end_io, ownOf_own, valOf_val, frz_val, frz_own, cOwn_own, peek_val, peek_own, by_val, by_own, canSet_none, canSet_val, canSet_own, lstOf_list,
  List.getElem?_cons_zero, List.getElem?_cons_succ, List.set_cons_zero, List.set_cons_succ, List.length_cons, List.length_nil, wo_ite, wo_bind, ↓reduceIte, and_true, true_and, and_self, Bool.false_eq_true, Bool.not_true, Bool.not_false, decide_eq_true_eq, decide_true, decide_false, oneInt_int, twoInts_int,
  add_ii, add_ll, add_tt, add_ss, sub_ii, mul_ii, mulS_ii, mod_ii, fdiv_ii, neg_i, le_ii, gt_ii, ge_ii, eqT_ii, eqT_ss, eqT_bb, eqT_nn, ltT_ii, ltT_ss, wo_eqD, wo_neD, wo_ltD, wo_inD, wo_ninD, is_n, isnt_n, is_bb, isnt_bb, isN, bOf_b, iOf_i, tru_b, tru_n, tru_i, tru_l, tru_t, seq_l, seq_t, tup_l, tup_t, lst_l, lst_t, len_l, len_t, int_i, int_b, abs_i, max_ii, min_ii, ix_li, ix_ti, cut_l, cut_t, flat_i, flat_b, flat_s, ix0, ix1, ix2, mkTup, mkLst,
  add2_ll, ws_par3, three_c, ws_grp, empty_own, lOwnD_own, wm_lcW, wm_getD, wm_ind, ix3, ix4, ix_m2, ix_m1, ix_p2, ix_p1, wm_newD, ws_setK, wm_get, wm_ixK, wm_sortN, ws_ext, dOwn_own, lOwn_own, lsD_list, step_nx, step_cnt, step_brk, step_ret, step_rof, wm_reve, rev_l, rev_t, wm_opBL, repr_l, sort_l, sum_l, wm_enum, enum_l, enum_t, enumL_nil, wm_dic, wm_kvn, wm_kvc, seq_s, mulT_si, len_s, ord_c, str_i, ty_d, k_lb, k_li, k_ls, k_tb, k_ti, k_ts, k_db, k_di, k_ds, k_lt, k_tl,
  isi_1, tyOk_n, tyOk_b, tyOk_i, tyOk_s, tyOk_l, tyOk_t, ty_n, ty_b, ty_i, ty_s, ty_l, ty_t, k_nb, k_bb, k_ib, k_sb, k_ni, k_bi, k_ii, k_si, k_ns, k_bs, k_is, k_ss, k_ll, k_tt,
  Int.reduceNeg, Int.reducePow, Int.reduceLT, Int.reduceLE, Int.reduceAdd, Int.reduceSub, Int.reduceMul, Int.reduceToNat, Nat.reduceAdd, Nat.reduceLeDiff, Nat.reduceEqDiff, Int.reduceEq, reduceCtorEq, ws_grpL, empty_ownL, wo_TLst, wg_P, wg_end, wg_then, theng_nx, wg_yield, wm_callG, wo_runG, List.nil_append, h8, h9, h10, in_ints, List.length_map]
      refine ⟨⟨by omega, rfl⟩, ?_⟩
      refine lc_filterA PyData.int PyData.int (fun x => decide (x = t)) _ (fun x _ => ?_) ?_
      · simp only [backE, wipeE, wo_some, wo_none, wm_c, wm_var, wm_frz, wm_bin, wm_un, wm_tst, wm_tru, wm_truB, wm_chain, wm_and, wm_or, wm_not, wm_andV, wm_orV, wm_notV, wm_ifE, wm_nil, wm_cons, wm_app, wm_noP, wm_part, wm_sl, wm_pk, wm_io, wm_ix, wm_inB, wm_true, wm_seq, wm_rng1, wm_rng2,
  then_nx, then_ret, then_rof, then_brk, then_cnt, ws_next, ws_brk, ws_cnt, ws_seq, ws_if, ws_ret, ws_rof, ws_drop, ws_set, ws_own, ws_asg, wo_TN, wo_TNil, wo_TCons, wo_TTup, ws_ap, ws_setIx, ws_for, for_nil, turn_nx, turn_cnt, turn_brk, turn_ret, turn_rof, wm_lc, end_ret, end_nx, end_rof, end_io, ownOf_own, valOf_val, frz_val, frz_own, cOwn_own, peek_val, peek_own, by_val, by_own, canSet_none, canSet_val, canSet_own, lstOf_list,
  List.getElem?_cons_zero, List.getElem?_cons_succ, List.set_cons_zero, List.set_cons_succ, List.length_cons, List.length_nil, wo_ite, wo_bind, ↓reduceIte, and_true, true_and, and_self, Bool.false_eq_true, Bool.not_true, Bool.not_false, decide_eq_true_eq, decide_true, decide_false, oneInt_int, twoInts_int,
  add_ii, add_ll, add_tt, add_ss, sub_ii, mul_ii, mulS_ii, mod_ii, fdiv_ii, neg_i, le_ii, gt_ii, ge_ii, eqT_ii, eqT_ss, eqT_bb, eqT_nn, ltT_ii, ltT_ss, wo_eqD, wo_neD, wo_ltD, wo_inD, wo_ninD, is_n, isnt_n, is_bb, isnt_bb, isN, bOf_b, iOf_i, tru_b, tru_n, tru_i, tru_l, tru_t, seq_l, seq_t, tup_l, tup_t, lst_l, lst_t, len_l, len_t, int_i, int_b, abs_i, max_ii, min_ii, ix_li, ix_ti, cut_l, cut_t, flat_i, flat_b, flat_s, ix0, ix1, ix2, mkTup, mkLst,
  add2_ll, ws_par3, three_c, ws_grp, empty_own, lOwnD_own, wm_lcW, wm_getD, wm_ind, ix3, ix4, ix_m2, ix_m1, ix_p2, ix_p1, wm_newD, ws_setK, wm_get, wm_ixK, wm_sortN, ws_ext, dOwn_own, lOwn_own, lsD_list, step_nx, step_cnt, step_brk, step_ret, step_rof, wm_reve, rev_l, rev_t, wm_opBL, repr_l, sort_l, sum_l, wm_enum, enum_l, enum_t, enumL_nil, wm_dic, wm_kvn, wm_kvc, seq_s, mulT_si, len_s, ord_c, str_i, ty_d, k_lb, k_li, k_ls, k_tb, k_ti, k_ts, k_db, k_di, k_ds, k_lt, k_tl,
  isi_1, tyOk_n, tyOk_b, tyOk_i, tyOk_s, tyOk_l, tyOk_t, ty_n, ty_b, ty_i, ty_s, ty_l, ty_t, k_nb, k_bb, k_ib, k_sb, k_ni, k_bi, k_ii, k_si, k_ns, k_bs, k_is, k_ss, k_ll, k_tt,
  Int.reduceNeg, Int.reducePow, Int.reduceLT, Int.reduceLE, Int.reduceAdd, Int.reduceSub, Int.reduceMul, Int.reduceToNat, Nat.reduceAdd, Nat.reduceLeDiff, Nat.reduceEqDiff, Int.reduceEq, reduceCtorEq, ws_grpL, empty_ownL, wo_TLst, wg_P, wg_end, wg_then, theng_nx, wg_yield, wm_callG, wo_runG, List.nil_append]
        exact ⟨fun _ => trivial, fun _ => trivial⟩
      simp only [backE, wipeE, wo_some, wo_none, wm_c, wm_var, wm_frz, wm_bin, wm_un, wm_tst, wm_tru, wm_truB, wm_chain, wm_and, wm_or, wm_not, wm_andV, wm_orV, wm_notV, wm_ifE, wm_nil, wm_cons, wm_app, wm_noP, wm_part, wm_sl, wm_pk, wm_io, wm_ix, wm_inB, wm_true, wm_seq, wm_rng1, wm_rng2,
  then_nx, then_ret, then_rof, then_brk, then_cnt, ws_next, ws_brk, ws_cnt, ws_seq, ws_if, ws_ret, ws_rof, ws_drop, ws_set, ws_own, ws_asg, wo_TN, wo_TNil, wo_TCons, wo_TTup, ws_ap, ws_setIx, ws_for, for_nil, turn_nx, turn_cnt, turn_brk, turn_ret, turn_rof, wm_lc, end_ret, end_nx, end_rof, end_io, ownOf_own, valOf_val, frz_val, frz_own, cOwn_own, peek_val, peek_own, by_val, by_own, canSet_none, canSet_val, canSet_own, lstOf_list,
  List.getElem?_cons_zero, List.getElem?_cons_succ, List.set_cons_zero, List.set_cons_succ, List.length_cons, List.length_nil, wo_ite, wo_bind, ↓reduceIte, and_true, true_and, and_self, Bool.false_eq_true, Bool.not_true, Bool.not_false, decide_eq_true_eq, decide_true, decide_false, oneInt_int, twoInts_int,
  add_ii, add_ll, add_tt, add_ss, sub_ii, mul_ii, mulS_ii, mod_ii, fdiv_ii, neg_i, le_ii, gt_ii, ge_ii, eqT_ii, eqT_ss, eqT_bb, eqT_nn, ltT_ii, ltT_ss, wo_eqD, wo_neD, wo_ltD, wo_inD, wo_ninD, is_n, isnt_n, is_bb, isnt_bb, isN, bOf_b, iOf_i, tru_b, tru_n, tru_i, tru_l, tru_t, seq_l, seq_t, tup_l, tup_t, lst_l, lst_t, len_l, len_t, int_i, int_b, abs_i, max_ii, min_ii, ix_li, ix_ti, cut_l, cut_t, flat_i, flat_b, flat_s, ix0, ix1, ix2, mkTup, mkLst,
  add2_ll, ws_par3, three_c, ws_grp, empty_own, lOwnD_own, wm_lcW, wm_getD, wm_ind, ix3, ix4, ix_m2, ix_m1, ix_p2, ix_p1, wm_newD, ws_setK, wm_get, wm_ixK, wm_sortN, ws_ext, dOwn_own, lOwn_own, lsD_list, step_nx, step_cnt, step_brk, step_ret, step_rof, wm_reve, rev_l, rev_t, wm_opBL, repr_l, sort_l, sum_l, wm_enum, enum_l, enum_t, enumL_nil, wm_dic, wm_kvn, wm_kvc, seq_s, mulT_si, len_s, ord_c, str_i, ty_d, k_lb, k_li, k_ls, k_tb, k_ti, k_ts, k_db, k_di, k_ds, k_lt, k_tl,
  isi_1, tyOk_n, tyOk_b, tyOk_i, tyOk_s, tyOk_l, tyOk_t, ty_n, ty_b, ty_i, ty_s, ty_l, ty_t, k_nb, k_bb, k_ib, k_sb, k_ni, k_bi, k_ii, k_si, k_ns, k_bs, k_is, k_ss, k_ll, k_tt,
  Int.reduceNeg, Int.reducePow, Int.reduceLT, Int.reduceLE, Int.reduceAdd, Int.reduceSub, Int.reduceMul, Int.reduceToNat, Nat.reduceAdd, Nat.reduceLeDiff, Nat.reduceEqDiff, Int.reduceEq, reduceCtorEq, ws_grpL, empty_ownL, wo_TLst, wg_P, wg_end, wg_then, theng_nx, wg_yield, wm_callG, wo_runG, List.nil_append, backE, h9, cut_drop, List.length_map]
      rw [← List.map_drop]
      refine ⟨⟨by rw [List.length_map, hrest]; omega, rfl⟩, ?_⟩
      refine lc_filterA PyData.int PyData.int (fun x => decide (x = t)) _ (fun x _ => ?_) ?_
      · simp only [backE, wipeE, wo_some, wo_none, wm_c, wm_var, wm_frz, wm_bin, wm_un, wm_tst, wm_tru, wm_truB, wm_chain, wm_and, wm_or, wm_not, wm_andV, wm_orV, wm_notV, wm_ifE, wm_nil, wm_cons, wm_app, wm_noP, wm_part, wm_sl, wm_pk, wm_io, wm_ix, wm_inB, wm_true, wm_seq, wm_rng1, wm_rng2,
  then_nx, then_ret, then_rof, then_brk, then_cnt, ws_next, ws_brk, ws_cnt, ws_seq, ws_if, ws_ret, ws_rof, ws_drop, ws_set, ws_own, ws_asg, wo_TN, wo_TNil, wo_TCons, wo_TTup, ws_ap, ws_setIx, ws_for, for_nil, turn_nx, turn_cnt, turn_brk, turn_ret, turn_rof, wm_lc, end_ret, end_nx, end_rof, end_io, ownOf_own, valOf_val, frz_val, frz_own, cOwn_own, peek_val, peek_own, by_val, by_own, canSet_none, canSet_val, canSet_own, lstOf_list,
  List.getElem?_cons_zero, List.getElem?_cons_succ, List.set_cons_zero, List.set_cons_succ, List.length_cons, List.length_nil, wo_ite, wo_bind, ↓reduceIte, and_true, true_and, and_self, Bool.false_eq_true, Bool.not_true, Bool.not_false, decide_eq_true_eq, decide_true, decide_false, oneInt_int, twoInts_int,
  add_ii, add_ll, add_tt, add_ss, sub_ii, mul_ii, mulS_ii, mod_ii, fdiv_ii, neg_i, le_ii, gt_ii, ge_ii, eqT_ii, eqT_ss, eqT_bb, eqT_nn, ltT_ii, ltT_ss, wo_eqD, wo_neD, wo_ltD, wo_inD, wo_ninD, is_n, isnt_n, is_bb, isnt_bb, isN, bOf_b, iOf_i, tru_b, tru_n, tru_i, tru_l, tru_t, seq_l, seq_t, tup_l, tup_t, lst_l, lst_t, len_l, len_t, int_i, int_b, abs_i, max_ii, min_ii, ix_li, ix_ti, cut_l, cut_t, flat_i, flat_b, flat_s, ix0, ix1, ix2, mkTup, mkLst,
  add2_ll, ws_par3, three_c, ws_grp, empty_own, lOwnD_own, wm_lcW, wm_getD, wm_ind, ix3, ix4, ix_m2, ix_m1, ix_p2, ix_p1, wm_newD, ws_setK, wm_get, wm_ixK, wm_sortN, ws_ext, dOwn_own, lOwn_own, lsD_list, step_nx, step_cnt, step_brk, step_ret, step_rof, wm_reve, rev_l, rev_t, wm_opBL, repr_l, sort_l, sum_l, wm_enum, enum_l, enum_t, enumL_nil, wm_dic, wm_kvn, wm_kvc, seq_s, mulT_si, len_s, ord_c, str_i, ty_d, k_lb, k_li, k_ls, k_tb, k_ti, k_ts, k_db, k_di, k_ds, k_lt, k_tl,
  isi_1, tyOk_n, tyOk_b, tyOk_i, tyOk_s, tyOk_l, tyOk_t, ty_n, ty_b, ty_i, ty_s, ty_l, ty_t, k_nb, k_bb, k_ib, k_sb, k_ni, k_bi, k_ii, k_si, k_ns, k_bs, k_is, k_ss, k_ll, k_tt,
  Int.reduceNeg, Int.reducePow, Int.reduceLT, Int.reduceLE, Int.reduceAdd, Int.reduceSub, Int.reduceMul, Int.reduceToNat, Nat.reduceAdd, Nat.reduceLeDiff, Nat.reduceEqDiff, Int.reduceEq, reduceCtorEq, ws_grpL, empty_ownL, wo_TLst, wg_P, wg_end, wg_then, theng_nx, wg_yield, wm_callG, wo_runG, List.nil_append]
        exact ⟨fun _ => trivial, fun _ => trivial⟩
      have hr : lowP p + (if (t : Int) ∈ R then (1 : Int) else 0) - (((c.filter fun x => decide (x = (t : Int))).length : Nat) : Int) = roomR p R (hC c) t := rfl
      have hl2 : ((((ow.drop c.length).filter fun x => decide (x = (t : Int))).length : Nat) : Int) = lC ow c t := rfl
      simp only [backE, wipeE, wo_some, wo_none, wm_c, wm_var, wm_frz, wm_bin, wm_un, wm_tst, wm_tru, wm_truB, wm_chain, wm_and, wm_or, wm_not, wm_andV, wm_orV, wm_notV, wm_ifE, wm_nil, wm_cons, wm_app, wm_noP, wm_part, wm_sl, wm_pk, wm_io, wm_ix, wm_inB, wm_true, wm_seq, wm_rng1, wm_rng2,
  then_nx, then_ret, then_rof, then_brk, then_cnt, ws_next, ws_brk, ws_cnt, ws_seq, ws_if, ws_ret, ws_rof, ws_drop, ws_set, ws_own, ws_asg, wo_TN, wo_TNil, wo_TCons, wo_TTup, ws_ap, ws_setIx, ws_for, for_nil, turn_nx, turn_cnt, turn_brk, turn_ret, turn_rof, wm_lc, end_ret, end_nx, end_rof, end_io, ownOf_own, valOf_val, frz_val, frz_own, cOwn_own, peek_val, peek_own, by_val, by_own, canSet_none, canSet_val, canSet_own, lstOf_list,
  List.getElem?_cons_zero, List.getElem?_cons_succ, List.set_cons_zero, List.set_cons_succ, List.length_cons, List.length_nil, wo_ite, wo_bind, ↓reduceIte, and_true, true_and, and_self, Bool.false_eq_true, Bool.not_true, Bool.not_false, decide_eq_true_eq, decide_true, decide_false, oneInt_int, twoInts_int,
  add_ii, add_ll, add_tt, add_ss, sub_ii, mul_ii, mulS_ii, mod_ii, fdiv_ii, neg_i, le_ii, gt_ii, ge_ii, eqT_ii, eqT_ss, eqT_bb, eqT_nn, ltT_ii, ltT_ss, wo_eqD, wo_neD, wo_ltD, wo_inD, wo_ninD, is_n, isnt_n, is_bb, isnt_bb, isN, bOf_b, iOf_i, tru_b, tru_n, tru_i, tru_l, tru_t, seq_l, seq_t, tup_l, tup_t, lst_l, lst_t, len_l, len_t, int_i, int_b, abs_i, max_ii, min_ii, ix_li, ix_ti, cut_l, cut_t, flat_i, flat_b, flat_s, ix0, ix1, ix2, mkTup, mkLst,
  add2_ll, ws_par3, three_c, ws_grp, empty_own, lOwnD_own, wm_lcW, wm_getD, wm_ind, ix3, ix4, ix_m2, ix_m1, ix_p2, ix_p1, wm_newD, ws_setK, wm_get, wm_ixK, wm_sortN, ws_ext, dOwn_own, lOwn_own, lsD_list, step_nx, step_cnt, step_brk, step_ret, step_rof, wm_reve, rev_l, rev_t, wm_opBL, repr_l, sort_l, sum_l, wm_enum, enum_l, enum_t, enumL_nil, wm_dic, wm_kvn, wm_kvc, seq_s, mulT_si, len_s, ord_c, str_i, ty_d, k_lb, k_li, k_ls, k_tb, k_ti, k_ts, k_db, k_di, k_ds, k_lt, k_tl,
  isi_1, tyOk_n, tyOk_b, tyOk_i, tyOk_s, tyOk_l, tyOk_t, ty_n, ty_b, ty_i, ty_s, ty_l, ty_t, k_nb, k_bb, k_ib, k_sb, k_ni, k_bi, k_ii, k_si, k_ns, k_bs, k_is, k_ss, k_ll, k_tt,
  Int.reduceNeg, Int.reducePow, Int.reduceLT, Int.reduceLE, Int.reduceAdd, Int.reduceSub, Int.reduceMul, Int.reduceToNat, Nat.reduceAdd, Nat.reduceLeDiff, Nat.reduceEqDiff, Int.reduceEq, reduceCtorEq, ws_grpL, empty_ownL, wo_TLst, wg_P, wg_end, wg_then, theng_nx, wg_yield, wm_callG, wo_runG, List.nil_append, backE, h10, hmin, hr, hl2, List.length_map]
      have es : ((q ++ [t]).map fun s => min (roomR p R (hC c) s) (lC ow c s)).sum = (q.map fun s => min (roomR p R (hC c) s) (lC ow c s)).sum + min (roomR p R (hC c) t) (lC ow c t) := by
        rw [List.map_append, List.sum_append]
        simp
      have ea : ((q ++ [t]).all fun s => decide (0 ≤ roomR p R (hC c) s)) = ((q.all fun s => decide (0 ≤ roomR p R (hC c) s)) && decide (0 ≤ roomR p R (hC c) t)) := by
        rw [List.all_append]
        simp
      rw [es, ea]
      cases (q.all fun s => decide (0 ≤ roomR p R (hC c) s)) with
      | true =>
        rw [if_pos rfl, Bool.true_and]
        exact ⟨some (.val (.int (t : Int))), some (.val (.int (roomR p R (hC c) t))), some (.val (.int (lC ow c t))), ⟨rfl, rfl, rfl⟩, rfl⟩
      | false =>
        rw [if_neg (by decide), Bool.false_and]
        exact ⟨some (.val (.int (t : Int))), some (.val (.int (roomR p R (hC c) t))), some (.val (.int (lC ow c t))), ⟨rfl, rfl, rfl⟩, rfl⟩
    · clear h8 h9 h10
      rintro ρ' ⟨o8, o9, o10, ⟨h8, h9, h10⟩, rfl⟩
      have hk : ((List.range p).map fun s => min (roomR p R (hC c) s) (lC ow c s)).sum = keptR p R (hC c) (lC ow c) := rfl
      have hf : ((List.range p).all fun s => decide (0 ≤ roomR p R (hC c) s)) = fitB p R (hC c) := rfl
      rw [hk, hf]
      simp only [backE, wipeE, wo_some, wo_none, wm_c, wm_var, wm_frz, wm_bin, wm_un, wm_tst, wm_tru, wm_truB, wm_chain, wm_and, wm_or, wm_not, wm_andV, wm_orV, wm_notV, wm_ifE, wm_nil, wm_cons, wm_app, wm_noP, wm_part, wm_sl, wm_pk, wm_io, wm_ix, wm_inB, wm_true, wm_seq, wm_rng1, wm_rng2,
  then_nx, then_ret, then_rof, then_brk, then_cnt, ws_next, ws_brk, ws_cnt, ws_seq, ws_if, ws_ret, ws_rof, ws_drop, ws_set, ws_own, ws_asg, wo_TN, wo_TNil, wo_TCons, wo_TTup, ws_ap, ws_setIx, ws_for, for_nil, turn_nx, turn_cnt, turn_brk, turn_ret, turn_rof, wm_lc, end_ret, end_nx, end_rof, end_io, ownOf_own, valOf_val, frz_val, frz_own, cOwn_own, peek_val, peek_own, by_val, by_own, canSet_none, canSet_val, canSet_own, lstOf_list,
  List.getElem?_cons_zero, List.getElem?_cons_succ, List.set_cons_zero, List.set_cons_succ, List.length_cons, List.length_nil, wo_ite, wo_bind, ↓reduceIte, and_true, true_and, and_self, Bool.false_eq_true, Bool.not_true, Bool.not_false, decide_eq_true_eq, decide_true, decide_false, oneInt_int, twoInts_int,
  add_ii, add_ll, add_tt, add_ss, sub_ii, mul_ii, mulS_ii, mod_ii, fdiv_ii, neg_i, le_ii, gt_ii, ge_ii, eqT_ii, eqT_ss, eqT_bb, eqT_nn, ltT_ii, ltT_ss, wo_eqD, wo_neD, wo_ltD, wo_inD, wo_ninD, is_n, isnt_n, is_bb, isnt_bb, isN, bOf_b, iOf_i, tru_b, tru_n, tru_i, tru_l, tru_t, seq_l, seq_t, tup_l, tup_t, lst_l, lst_t, len_l, len_t, int_i, int_b, abs_i, max_ii, min_ii, ix_li, ix_ti, cut_l, cut_t, flat_i, flat_b, flat_s, ix0, ix1, ix2, mkTup, mkLst,
  add2_ll, ws_par3, three_c, ws_grp, empty_own, lOwnD_own, wm_lcW, wm_getD, wm_ind, ix3, ix4, ix_m2, ix_m1, ix_p2, ix_p1, wm_newD, ws_setK, wm_get, wm_ixK, wm_sortN, ws_ext, dOwn_own, lOwn_own, lsD_list, step_nx, step_cnt, step_brk, step_ret, step_rof, wm_reve, rev_l, rev_t, wm_opBL, repr_l, sort_l, sum_l, wm_enum, enum_l, enum_t, enumL_nil, wm_dic, wm_kvn, wm_kvc, seq_s, mulT_si, len_s, ord_c, str_i, ty_d, k_lb, k_li, k_ls, k_tb, k_ti, k_ts, k_db, k_di, k_ds, k_lt, k_tl,
  isi_1, tyOk_n, tyOk_b, tyOk_i, tyOk_s, tyOk_l, tyOk_t, ty_n, ty_b, ty_i, ty_s, ty_l, ty_t, k_nb, k_bb, k_ib, k_sb, k_ni, k_bi, k_ii, k_si, k_ns, k_bs, k_is, k_ss, k_ll, k_tt,
  Int.reduceNeg, Int.reducePow, Int.reduceLT, Int.reduceLE, Int.reduceAdd, Int.reduceSub, Int.reduceMul, Int.reduceToNat, Nat.reduceAdd, Nat.reduceLeDiff, Nat.reduceEqDiff, Int.reduceEq, reduceCtorEq, ws_grpL, empty_ownL, wo_TLst, wg_P, wg_end, wg_then, theng_nx, wg_yield, wm_callG, wo_runG, List.nil_append, hc62, rng_map, Int.toNat_natCast, List.length_map, List.length_range]
      refine ⟨⟨by omega, rfl⟩, ?_⟩
      refine lc_filterA (fun i : Nat => PyData.int i) (fun k : Nat => PyData.int (k : Int)) (fun k => decide (ow[k]? ≠ c[k]?)) _ (fun j hj => ?_) ?_
      · have hj := List.mem_range.mp hj
        have eo : ow[j]? = some ow[j] := List.getElem?_eq_getElem (by omega)
        have ec : c[j]? = some c[j] := List.getElem?_eq_getElem hj
        have ix : ixA (ow.map PyData.int) (j : Int) = some (.int ow[j]) := by
          rw [ixA_nat, List.getElem?_map, eo]; rfl
        have ix2 : ixA (c.map PyData.int) (j : Int) = some (.int c[j]) := by
          rw [ixA_nat, List.getElem?_map, ec]; rfl
        rw [eo, ec]
        simp only [backE, wipeE, wo_some, wo_none, wm_c, wm_var, wm_frz, wm_bin, wm_un, wm_tst, wm_tru, wm_truB, wm_chain, wm_and, wm_or, wm_not, wm_andV, wm_orV, wm_notV, wm_ifE, wm_nil, wm_cons, wm_app, wm_noP, wm_part, wm_sl, wm_pk, wm_io, wm_ix, wm_inB, wm_true, wm_seq, wm_rng1, wm_rng2,
  then_nx, then_ret, then_rof, then_brk, then_cnt, ws_next, ws_brk, ws_cnt, ws_seq, ws_if, ws_ret, ws_rof, ws_drop, ws_set, ws_own, ws_asg, wo_TN, wo_TNil, wo_TCons, wo_TTup, ws_ap, ws_setIx, ws_for, for_nil, turn_nx, turn_cnt, turn_brk, turn_ret, turn_rof, wm_lc, end_ret, end_nx, end_rof, end_io, ownOf_own, valOf_val, frz_val, frz_own, cOwn_own, peek_val, peek_own, by_val, by_own, canSet_none, canSet_val, canSet_own, lstOf_list,
  List.getElem?_cons_zero, List.getElem?_cons_succ, List.set_cons_zero, List.set_cons_succ, List.length_cons, List.length_nil, wo_ite, wo_bind, ↓reduceIte, and_true, true_and, and_self, Bool.false_eq_true, Bool.not_true, Bool.not_false, decide_eq_true_eq, decide_true, decide_false, oneInt_int, twoInts_int,
  add_ii, add_ll, add_tt, add_ss, sub_ii, mul_ii, mulS_ii, mod_ii, fdiv_ii, neg_i, le_ii, gt_ii, ge_ii, eqT_ii, eqT_ss, eqT_bb, eqT_nn, ltT_ii, ltT_ss, wo_eqD, wo_neD, wo_ltD, wo_inD, wo_ninD, is_n, isnt_n, is_bb, isnt_bb, isN, bOf_b, iOf_i, tru_b, tru_n, tru_i, tru_l, tru_t, seq_l, seq_t, tup_l, tup_t, lst_l, lst_t, len_l, len_t, int_i, int_b, abs_i, max_ii, min_ii, ix_li, ix_ti, cut_l, cut_t, flat_i, flat_b, flat_s, ix0, ix1, ix2, mkTup, mkLst,
  add2_ll, ws_par3, three_c, ws_grp, empty_own, lOwnD_own, wm_lcW, wm_getD, wm_ind, ix3, ix4, ix_m2, ix_m1, ix_p2, ix_p1, wm_newD, ws_setK, wm_get, wm_ixK, wm_sortN, ws_ext, dOwn_own, lOwn_own, lsD_list, step_nx, step_cnt, step_brk, step_ret, step_rof, wm_reve, rev_l, rev_t, wm_opBL, repr_l, sort_l, sum_l, wm_enum, enum_l, enum_t, enumL_nil, wm_dic, wm_kvn, wm_kvc, seq_s, mulT_si, len_s, ord_c, str_i, ty_d, k_lb, k_li, k_ls, k_tb, k_ti, k_ts, k_db, k_di, k_ds, k_lt, k_tl,
  isi_1, tyOk_n, tyOk_b, tyOk_i, tyOk_s, tyOk_l, tyOk_t, ty_n, ty_b, ty_i, ty_s, ty_l, ty_t, k_nb, k_bb, k_ib, k_sb, k_ni, k_bi, k_ii, k_si, k_ns, k_bs, k_is, k_ss, k_ll, k_tt,
  Int.reduceNeg, Int.reducePow, Int.reduceLT, Int.reduceLE, Int.reduceAdd, Int.reduceSub, Int.reduceMul, Int.reduceToNat, Nat.reduceAdd, Nat.reduceLeDiff, Nat.reduceEqDiff, Int.reduceEq, reduceCtorEq, ws_grpL, empty_ownL, wo_TLst, wg_P, wg_end, wg_then, theng_nx, wg_yield, wm_callG, wo_runG, List.nil_append, ix, ix2]
        exact ⟨by simp, fun _ => trivial, fun _ => trivial⟩
      have hm : ((((List.range c.length).filter fun k => decide (ow[k]? ≠ c[k]?)).length : Nat) : Int) = mvd ow c := rfl
      have hv : mvd ow c + 16 - (c.length : Int) - keptR p R (hC c) (lC ow c) = valR p R (hC c) (lC ow c) c.length (mvd ow c) := rfl
      simp only [backE, wipeE, wo_some, wo_none, wm_c, wm_var, wm_frz, wm_bin, wm_un, wm_tst, wm_tru, wm_truB, wm_chain, wm_and, wm_or, wm_not, wm_andV, wm_orV, wm_notV, wm_ifE, wm_nil, wm_cons, wm_app, wm_noP, wm_part, wm_sl, wm_pk, wm_io, wm_ix, wm_inB, wm_true, wm_seq, wm_rng1, wm_rng2,
  then_nx, then_ret, then_rof, then_brk, then_cnt, ws_next, ws_brk, ws_cnt, ws_seq, ws_if, ws_ret, ws_rof, ws_drop, ws_set, ws_own, ws_asg, wo_TN, wo_TNil, wo_TCons, wo_TTup, ws_ap, ws_setIx, ws_for, for_nil, turn_nx, turn_cnt, turn_brk, turn_ret, turn_rof, wm_lc, end_ret, end_nx, end_rof, end_io, ownOf_own, valOf_val, frz_val, frz_own, cOwn_own, peek_val, peek_own, by_val, by_own, canSet_none, canSet_val, canSet_own, lstOf_list,
  List.getElem?_cons_zero, List.getElem?_cons_succ, List.set_cons_zero, List.set_cons_succ, List.length_cons, List.length_nil, wo_ite, wo_bind, ↓reduceIte, and_true, true_and, and_self, Bool.false_eq_true, Bool.not_true, Bool.not_false, decide_eq_true_eq, decide_true, decide_false, oneInt_int, twoInts_int,
  add_ii, add_ll, add_tt, add_ss, sub_ii, mul_ii, mulS_ii, mod_ii, fdiv_ii, neg_i, le_ii, gt_ii, ge_ii, eqT_ii, eqT_ss, eqT_bb, eqT_nn, ltT_ii, ltT_ss, wo_eqD, wo_neD, wo_ltD, wo_inD, wo_ninD, is_n, isnt_n, is_bb, isnt_bb, isN, bOf_b, iOf_i, tru_b, tru_n, tru_i, tru_l, tru_t, seq_l, seq_t, tup_l, tup_t, lst_l, lst_t, len_l, len_t, int_i, int_b, abs_i, max_ii, min_ii, ix_li, ix_ti, cut_l, cut_t, flat_i, flat_b, flat_s, ix0, ix1, ix2, mkTup, mkLst,
  add2_ll, ws_par3, three_c, ws_grp, empty_own, lOwnD_own, wm_lcW, wm_getD, wm_ind, ix3, ix4, ix_m2, ix_m1, ix_p2, ix_p1, wm_newD, ws_setK, wm_get, wm_ixK, wm_sortN, ws_ext, dOwn_own, lOwn_own, lsD_list, step_nx, step_cnt, step_brk, step_ret, step_rof, wm_reve, rev_l, rev_t, wm_opBL, repr_l, sort_l, sum_l, wm_enum, enum_l, enum_t, enumL_nil, wm_dic, wm_kvn, wm_kvc, seq_s, mulT_si, len_s, ord_c, str_i, ty_d, k_lb, k_li, k_ls, k_tb, k_ti, k_ts, k_db, k_di, k_ds, k_lt, k_tl,
  isi_1, tyOk_n, tyOk_b, tyOk_i, tyOk_s, tyOk_l, tyOk_t, ty_n, ty_b, ty_i, ty_s, ty_l, ty_t, k_nb, k_bb, k_ib, k_sb, k_ni, k_bi, k_ii, k_si, k_ns, k_bs, k_is, k_ss, k_ll, k_tt,
  Int.reduceNeg, Int.reducePow, Int.reduceLT, Int.reduceLE, Int.reduceAdd, Int.reduceSub, Int.reduceMul, Int.reduceToNat, Nat.reduceAdd, Nat.reduceLeDiff, Nat.reduceEqDiff, Int.reduceEq, reduceCtorEq, ws_grpL, empty_ownL, wo_TLst, wg_P, wg_end, wg_then, theng_nx, wg_yield, wm_callG, wo_runG, List.nil_append, backE, h11, hm, hv, List.length_map]
      cases hf2 : fitB p R (hC c) with
      | false =>
        have hb : bestS p (hC c) (lC ow c) c.length (mvd ow c) b R = b := by
          unfold bestS
          rw [if_neg (by rw [hf2]; simp)]
        rw [if_neg (by decide), hb]
        exact ⟨some (.val (.list (R.map PyData.int))), some (.val (.int (keptR p R (hC c) (lC ow c)))), some (.val (.bool false)), o8, o9, o10, some (.val (.int (valR p R (hC c) (lC ow c) c.length (mvd ow c)))), ⟨rfl, rfl, rfl, h8, h9, h10, rfl⟩, rfl⟩
      | true =>
        rw [if_pos rfl]
        cases b with
        | none =>
          have hb : bestS p (hC c) (lC ow c) c.length (mvd ow c) none R = some (valR p R (hC c) (lC ow c) c.length (mvd ow c)) := by
            unfold bestS
            rw [if_pos ⟨hf2, .inl rfl⟩]
          rw [hb]
          simp only [optD, ↓reduceIte]
          exact ⟨some (.val (.list (R.map PyData.int))), some (.val (.int (keptR p R (hC c) (lC ow c)))), some (.val (.bool true)), o8, o9, o10, some (.val (.int (valR p R (hC c) (lC ow c) c.length (mvd ow c)))), ⟨rfl, rfl, rfl, h8, h9, h10, rfl⟩, rfl⟩
        | some v =>
          rw [if_neg (by simp [optD])]
          show Wo (ltT (.int _) (.int v)) _
          simp only [backE, wipeE, wo_some, wo_none, wm_c, wm_var, wm_frz, wm_bin, wm_un, wm_tst, wm_tru, wm_truB, wm_chain, wm_and, wm_or, wm_not, wm_andV, wm_orV, wm_notV, wm_ifE, wm_nil, wm_cons, wm_app, wm_noP, wm_part, wm_sl, wm_pk, wm_io, wm_ix, wm_inB, wm_true, wm_seq, wm_rng1, wm_rng2,
  then_nx, then_ret, then_rof, then_brk, then_cnt, ws_next, ws_brk, ws_cnt, ws_seq, ws_if, ws_ret, ws_rof, ws_drop, ws_set, ws_own, ws_asg, wo_TN, wo_TNil, wo_TCons, wo_TTup, ws_ap, ws_setIx, ws_for, for_nil, turn_nx, turn_cnt, turn_brk, turn_ret, turn_rof, wm_lc, end_ret, end_nx, end_rof, end_io, ownOf_own, valOf_val, frz_val, frz_own, cOwn_own, peek_val, peek_own, by_val, by_own, canSet_none, canSet_val, canSet_own, lstOf_list,
  List.getElem?_cons_zero, List.getElem?_cons_succ, List.set_cons_zero, List.set_cons_succ, List.length_cons, List.length_nil, wo_ite, wo_bind, ↓reduceIte, and_true, true_and, and_self, Bool.false_eq_true, Bool.not_true, Bool.not_false, decide_eq_true_eq, decide_true, decide_false, oneInt_int, twoInts_int,
  add_ii, add_ll, add_tt, add_ss, sub_ii, mul_ii, mulS_ii, mod_ii, fdiv_ii, neg_i, le_ii, gt_ii, ge_ii, eqT_ii, eqT_ss, eqT_bb, eqT_nn, ltT_ii, ltT_ss, wo_eqD, wo_neD, wo_ltD, wo_inD, wo_ninD, is_n, isnt_n, is_bb, isnt_bb, isN, bOf_b, iOf_i, tru_b, tru_n, tru_i, tru_l, tru_t, seq_l, seq_t, tup_l, tup_t, lst_l, lst_t, len_l, len_t, int_i, int_b, abs_i, max_ii, min_ii, ix_li, ix_ti, cut_l, cut_t, flat_i, flat_b, flat_s, ix0, ix1, ix2, mkTup, mkLst,
  add2_ll, ws_par3, three_c, ws_grp, empty_own, lOwnD_own, wm_lcW, wm_getD, wm_ind, ix3, ix4, ix_m2, ix_m1, ix_p2, ix_p1, wm_newD, ws_setK, wm_get, wm_ixK, wm_sortN, ws_ext, dOwn_own, lOwn_own, lsD_list, step_nx, step_cnt, step_brk, step_ret, step_rof, wm_reve, rev_l, rev_t, wm_opBL, repr_l, sort_l, sum_l, wm_enum, enum_l, enum_t, enumL_nil, wm_dic, wm_kvn, wm_kvc, seq_s, mulT_si, len_s, ord_c, str_i, ty_d, k_lb, k_li, k_ls, k_tb, k_ti, k_ts, k_db, k_di, k_ds, k_lt, k_tl,
  isi_1, tyOk_n, tyOk_b, tyOk_i, tyOk_s, tyOk_l, tyOk_t, ty_n, ty_b, ty_i, ty_s, ty_l, ty_t, k_nb, k_bb, k_ib, k_sb, k_ni, k_bi, k_ii, k_si, k_ns, k_bs, k_is, k_ss, k_ll, k_tt,
  Int.reduceNeg, Int.reducePow, Int.reduceLT, Int.reduceLE, Int.reduceAdd, Int.reduceSub, Int.reduceMul, Int.reduceToNat, Nat.reduceAdd, Nat.reduceLeDiff, Nat.reduceEqDiff, Int.reduceEq, reduceCtorEq, ws_grpL, empty_ownL, wo_TLst, wg_P, wg_end, wg_then, theng_nx, wg_yield, wm_callG, wo_runG, List.nil_append]
          by_cases z : valR p R (hC c) (lC ow c) c.length (mvd ow c) < v
          · have hb : bestS p (hC c) (lC ow c) c.length (mvd ow c) (some v) R = some (valR p R (hC c) (lC ow c) c.length (mvd ow c)) := by
              unfold bestS
              rw [if_pos ⟨hf2, .inr ⟨v, rfl, z⟩⟩]
            rw [if_pos z, hb]
            exact ⟨some (.val (.list (R.map PyData.int))), some (.val (.int (keptR p R (hC c) (lC ow c)))), some (.val (.bool true)), o8, o9, o10, some (.val (.int (valR p R (hC c) (lC ow c) c.length (mvd ow c)))), ⟨rfl, rfl, rfl, h8, h9, h10, rfl⟩, rfl⟩
          · have hb : bestS p (hC c) (lC ow c) c.length (mvd ow c) (some v) R = some v := by
              unfold bestS
              rw [if_neg]
              rintro ⟨_, h | ⟨v', h, h'⟩⟩
              · cases h
              · cases h
                exact z h'
            rw [if_neg z, hb]
            exact ⟨some (.val (.list (R.map PyData.int))), some (.val (.int (keptR p R (hC c) (lC ow c)))), some (.val (.bool true)), o8, o9, o10, some (.val (.int (valR p R (hC c) (lC ow c) c.length (mvd ow c)))), ⟨rfl, rfl, rfl, h8, h9, h10, rfl⟩, rfl⟩
  · rintro ρ' ⟨o5, o6, o7, o8, o9, o10, o11, _, rfl⟩
    have hgv : (riches p).foldl (bestS p (hC c) (lC ow c) c.length (mvd ow c)) none = GV p ow c := rfl
    rw [hgv]
    simp only [backE, wipeE, wo_some, wo_none, wm_c, wm_var, wm_frz, wm_bin, wm_un, wm_tst, wm_tru, wm_truB, wm_chain, wm_and, wm_or, wm_not, wm_andV, wm_orV, wm_notV, wm_ifE, wm_nil, wm_cons, wm_app, wm_noP, wm_part, wm_sl, wm_pk, wm_io, wm_ix, wm_inB, wm_true, wm_seq, wm_rng1, wm_rng2,
  then_nx, then_ret, then_rof, then_brk, then_cnt, ws_next, ws_brk, ws_cnt, ws_seq, ws_if, ws_ret, ws_rof, ws_drop, ws_set, ws_own, ws_asg, wo_TN, wo_TNil, wo_TCons, wo_TTup, ws_ap, ws_setIx, ws_for, for_nil, turn_nx, turn_cnt, turn_brk, turn_ret, turn_rof, wm_lc, end_ret, end_nx, end_rof, end_io, ownOf_own, valOf_val, frz_val, frz_own, cOwn_own, peek_val, peek_own, by_val, by_own, canSet_none, canSet_val, canSet_own, lstOf_list,
  List.getElem?_cons_zero, List.getElem?_cons_succ, List.set_cons_zero, List.set_cons_succ, List.length_cons, List.length_nil, wo_ite, wo_bind, ↓reduceIte, and_true, true_and, and_self, Bool.false_eq_true, Bool.not_true, Bool.not_false, decide_eq_true_eq, decide_true, decide_false, oneInt_int, twoInts_int,
  add_ii, add_ll, add_tt, add_ss, sub_ii, mul_ii, mulS_ii, mod_ii, fdiv_ii, neg_i, le_ii, gt_ii, ge_ii, eqT_ii, eqT_ss, eqT_bb, eqT_nn, ltT_ii, ltT_ss, wo_eqD, wo_neD, wo_ltD, wo_inD, wo_ninD, is_n, isnt_n, is_bb, isnt_bb, isN, bOf_b, iOf_i, tru_b, tru_n, tru_i, tru_l, tru_t, seq_l, seq_t, tup_l, tup_t, lst_l, lst_t, len_l, len_t, int_i, int_b, abs_i, max_ii, min_ii, ix_li, ix_ti, cut_l, cut_t, flat_i, flat_b, flat_s, ix0, ix1, ix2, mkTup, mkLst,
  add2_ll, ws_par3, three_c, ws_grp, empty_own, lOwnD_own, wm_lcW, wm_getD, wm_ind, ix3, ix4, ix_m2, ix_m1, ix_p2, ix_p1, wm_newD, ws_setK, wm_get, wm_ixK, wm_sortN, ws_ext, dOwn_own, lOwn_own, lsD_list, step_nx, step_cnt, step_brk, step_ret, step_rof, wm_reve, rev_l, rev_t, wm_opBL, repr_l, sort_l, sum_l, wm_enum, enum_l, enum_t, enumL_nil, wm_dic, wm_kvn, wm_kvc, seq_s, mulT_si, len_s, ord_c, str_i, ty_d, k_lb, k_li, k_ls, k_tb, k_ti, k_ts, k_db, k_di, k_ds, k_lt, k_tl,
  isi_1, tyOk_n, tyOk_b, tyOk_i, tyOk_s, tyOk_l, tyOk_t, ty_n, ty_b, ty_i, ty_s, ty_l, ty_t, k_nb, k_bb, k_ib, k_sb, k_ni, k_bi, k_ii, k_si, k_ns, k_bs, k_is, k_ss, k_ll, k_tt,
  Int.reduceNeg, Int.reducePow, Int.reduceLT, Int.reduceLE, Int.reduceAdd, Int.reduceSub, Int.reduceMul, Int.reduceToNat, Nat.reduceAdd, Nat.reduceLeDiff, Nat.reduceEqDiff, Int.reduceEq, reduceCtorEq, ws_grpL, empty_ownL, wo_TLst, wg_P, wg_end, wg_then, theng_nx, wg_yield, wm_callG, wo_runG, List.nil_append]
theorem sp_owners_for {p : Nat} (hp : four p) {ow : List Int} (ho : ow.length = 16) : f_owners_for [intsT ow, .int p] = some (intsT (gk p ow 16)) := by
  have hce := fun (c : List Int) (hc : inP4 p c) (hl : c.length ≤ 16) => sp_can_end hp (ow := ow) (c := c) ho hc hl
  have hc0 : f_can_end [intsT ow, .tuple [], .int p] = some (optD (GV p ow [])) := hce [] (by simp [inP4]) (by simp)
  obtain ⟨_, hp1, hp4⟩ := four_low hp
  obtain ⟨gok, gst⟩ := gk_ok hp ho 16 (Nat.le_refl _)
  obtain ⟨v0, hv0⟩ := gv_nil hp ow
  rw [← wo_eq]
  unfold f_owners_for
  rw [wo_runV]
  show Ws g_owners_for [some (.val (intsT ow)), some (.val (.int p)), none, none, none, none] _
  unfold g_owners_for
  simp only [backE, wipeE, wo_some, wo_none, wm_c, wm_var, wm_frz, wm_bin, wm_un, wm_tst, wm_tru, wm_truB, wm_chain, wm_and, wm_or, wm_not, wm_andV, wm_orV, wm_notV, wm_ifE, wm_nil, wm_cons, wm_app, wm_noP, wm_part, wm_sl, wm_pk, wm_io, wm_ix, wm_inB, wm_true, wm_seq, wm_rng1, wm_rng2,
  then_nx, then_ret, then_rof, then_brk, then_cnt, ws_next, ws_brk, ws_cnt, ws_seq, ws_if, ws_ret, ws_rof, ws_drop, ws_set, ws_own, ws_asg, wo_TN, wo_TNil, wo_TCons, wo_TTup, ws_ap, ws_setIx, ws_for, for_nil, turn_nx, turn_cnt, turn_brk, turn_ret, turn_rof, wm_lc, end_ret, end_nx, end_rof, end_io, ownOf_own, valOf_val, frz_val, frz_own, cOwn_own, peek_val, peek_own, by_val, by_own, canSet_none, canSet_val, canSet_own, lstOf_list,
  List.getElem?_cons_zero, List.getElem?_cons_succ, List.set_cons_zero, List.set_cons_succ, List.length_cons, List.length_nil, wo_ite, wo_bind, ↓reduceIte, and_true, true_and, and_self, Bool.false_eq_true, Bool.not_true, Bool.not_false, decide_eq_true_eq, decide_true, decide_false, oneInt_int, twoInts_int,
  add_ii, add_ll, add_tt, add_ss, sub_ii, mul_ii, mulS_ii, mod_ii, fdiv_ii, neg_i, le_ii, gt_ii, ge_ii, eqT_ii, eqT_ss, eqT_bb, eqT_nn, ltT_ii, ltT_ss, wo_eqD, wo_neD, wo_ltD, wo_inD, wo_ninD, is_n, isnt_n, is_bb, isnt_bb, isN, bOf_b, iOf_i, tru_b, tru_n, tru_i, tru_l, tru_t, seq_l, seq_t, tup_l, tup_t, lst_l, lst_t, len_l, len_t, int_i, int_b, abs_i, max_ii, min_ii, ix_li, ix_ti, cut_l, cut_t, flat_i, flat_b, flat_s, ix0, ix1, ix2, mkTup, mkLst,
  add2_ll, ws_par3, three_c, ws_grp, empty_own, lOwnD_own, wm_lcW, wm_getD, wm_ind, ix3, ix4, ix_m2, ix_m1, ix_p2, ix_p1, wm_newD, ws_setK, wm_get, wm_ixK, wm_sortN, ws_ext, dOwn_own, lOwn_own, lsD_list, step_nx, step_cnt, step_brk, step_ret, step_rof, wm_reve, rev_l, rev_t, wm_opBL, repr_l, sort_l, sum_l, wm_enum, enum_l, enum_t, enumL_nil, wm_dic, wm_kvn, wm_kvc, seq_s, mulT_si, len_s, ord_c, str_i, ty_d, k_lb, k_li, k_ls, k_tb, k_ti, k_ts, k_db, k_di, k_ds, k_lt, k_tl,
  isi_1, tyOk_n, tyOk_b, tyOk_i, tyOk_s, tyOk_l, tyOk_t, ty_n, ty_b, ty_i, ty_s, ty_l, ty_t, k_nb, k_bb, k_ib, k_sb, k_ni, k_bi, k_ii, k_si, k_ns, k_bs, k_is, k_ss, k_ll, k_tt,
  Int.reduceNeg, Int.reducePow, Int.reduceLT, Int.reduceLE, Int.reduceAdd, Int.reduceSub, Int.reduceMul, Int.reduceToNat, Nat.reduceAdd, Nat.reduceLeDiff, Nat.reduceEqDiff, Int.reduceEq, reduceCtorEq, ws_grpL, empty_ownL, wo_TLst, wg_P, wg_end, wg_then, theng_nx, wg_yield, wm_callG, wo_runG, List.nil_append, hc0, hv0, optD]
  have e16 : small62 16 = true := by decide
  rw [if_pos e16]
  have er : rngL 0 16 = (List.range 16).map fun i : Nat => PyData.int i := rng_map 16
  rw [er]
  refine ws_forA (fun i : Nat => PyData.int i) (fun q ρ => ∃ (o4 o5 : Option Cell), (canSet (some o4) = some () ∧ canSet (some o5) = some ()) ∧ q.length ≤ 16 ∧ ρ = [some (.val (intsT ow)), some (.val (.int p)), some (.val (.int v0)), some (.val (intsT (gk p ow q.length))), o4, o5]) ⟨none, none, ⟨rfl, rfl⟩, by simp, rfl⟩ ?_ ?_
  · rintro q x r ρ e ⟨o4, o5, ⟨h4, h5⟩, hq, rfl⟩
    have hq16 : q.length < 16 := by
      have := congrArg List.length e
      rw [List.length_range, List.length_append, List.length_cons] at this
      omega
    obtain ⟨g, _⟩ := gk_ok hp ho q.length (by omega)
    obtain ⟨t, ht, e1, e2, e3, e4⟩ := gst q.length hq16
    have hx1 : (q ++ [x]).length = q.length + 1 := by simp
    rw [hx1, e1]
    simp only [backE, wipeE, wo_some, wo_none, wm_c, wm_var, wm_frz, wm_bin, wm_un, wm_tst, wm_tru, wm_truB, wm_chain, wm_and, wm_or, wm_not, wm_andV, wm_orV, wm_notV, wm_ifE, wm_nil, wm_cons, wm_app, wm_noP, wm_part, wm_sl, wm_pk, wm_io, wm_ix, wm_inB, wm_true, wm_seq, wm_rng1, wm_rng2,
  then_nx, then_ret, then_rof, then_brk, then_cnt, ws_next, ws_brk, ws_cnt, ws_seq, ws_if, ws_ret, ws_rof, ws_drop, ws_set, ws_own, ws_asg, wo_TN, wo_TNil, wo_TCons, wo_TTup, ws_ap, ws_setIx, ws_for, for_nil, turn_nx, turn_cnt, turn_brk, turn_ret, turn_rof, wm_lc, end_ret, end_nx, end_rof, end_io, ownOf_own, valOf_val, frz_val, frz_own, cOwn_own, peek_val, peek_own, by_val, by_own, canSet_none, canSet_val, canSet_own, lstOf_list,
  List.getElem?_cons_zero, List.getElem?_cons_succ, List.set_cons_zero, List.set_cons_succ, List.length_cons, List.length_nil, wo_ite, wo_bind, ↓reduceIte, and_true, true_and, and_self, Bool.false_eq_true, Bool.not_true, Bool.not_false, decide_eq_true_eq, decide_true, decide_false, oneInt_int, twoInts_int,
  add_ii, add_ll, add_tt, add_ss, sub_ii, mul_ii, mulS_ii, mod_ii, fdiv_ii, neg_i, le_ii, gt_ii, ge_ii, eqT_ii, eqT_ss, eqT_bb, eqT_nn, ltT_ii, ltT_ss, wo_eqD, wo_neD, wo_ltD, wo_inD, wo_ninD, is_n, isnt_n, is_bb, isnt_bb, isN, bOf_b, iOf_i, tru_b, tru_n, tru_i, tru_l, tru_t, seq_l, seq_t, tup_l, tup_t, lst_l, lst_t, len_l, len_t, int_i, int_b, abs_i, max_ii, min_ii, ix_li, ix_ti, cut_l, cut_t, flat_i, flat_b, flat_s, ix0, ix1, ix2, mkTup, mkLst,
  add2_ll, ws_par3, three_c, ws_grp, empty_own, lOwnD_own, wm_lcW, wm_getD, wm_ind, ix3, ix4, ix_m2, ix_m1, ix_p2, ix_p1, wm_newD, ws_setK, wm_get, wm_ixK, wm_sortN, ws_ext, dOwn_own, lOwn_own, lsD_list, step_nx, step_cnt, step_brk, step_ret, step_rof, wm_reve, rev_l, rev_t, wm_opBL, repr_l, sort_l, sum_l, wm_enum, enum_l, enum_t, enumL_nil, wm_dic, wm_kvn, wm_kvc, seq_s, mulT_si, len_s, ord_c, str_i, ty_d, k_lb, k_li, k_ls, k_tb, k_ti, k_ts, k_db, k_di, k_ds, k_lt, k_tl,
  isi_1, tyOk_n, tyOk_b, tyOk_i, tyOk_s, tyOk_l, tyOk_t, ty_n, ty_b, ty_i, ty_s, ty_l, ty_t, k_nb, k_bb, k_ib, k_sb, k_ni, k_bi, k_ii, k_si, k_ns, k_bs, k_is, k_ss, k_ll, k_tt,
  Int.reduceNeg, Int.reducePow, Int.reduceLT, Int.reduceLE, Int.reduceAdd, Int.reduceSub, Int.reduceMul, Int.reduceToNat, Nat.reduceAdd, Nat.reduceLeDiff, Nat.reduceEqDiff, Int.reduceEq, reduceCtorEq, ws_grpL, empty_ownL, wo_TLst, wg_P, wg_end, wg_then, theng_nx, wg_yield, wm_callG, wo_runG, List.nil_append, h4, h5]
    refine ws_whileI (fun m ρ => ∃ s : Nat, (s ≤ t ∧ m = t - s) ∧ ρ = [some (.val (intsT ow)), some (.val (.int p)), some (.val (.int v0)), some (.val (intsT (gk p ow q.length))), some (.val (.int (x : Int))), some (.val (.int (s : Int)))]) ?_ (m := t) (by omega) ⟨0, ⟨by omega, by omega⟩, rfl⟩
    rintro m ρ ⟨s, ⟨hs, rfl⟩, rfl⟩
    have hadd : addD (intsT (gk p ow q.length)) (.tuple [.int (s : Int)]) = some (intsT (gk p ow q.length ++ [(s : Int)])) := by
      unfold intsT
      rw [add_tt, if_pos (by rw [List.length_map, g.len]; simp; omega), List.map_append]
      rfl
    have hcs := hce (gk p ow q.length ++ [(s : Int)]) (fun y hy => by
      rcases List.mem_append.mp hy with h | h
      · exact g.inp y h
      · rw [List.mem_singleton.mp h]; omega) (by rw [List.length_append, g.len]; simp; omega)
    by_cases hst : s = t
    · subst hst
      have hv : GV p ow (gk p ow q.length ++ [(s : Int)]) = some v0 := by rw [← hv0]; exact of_decide_eq_true e3
      rw [hv] at hcs
      simp only [backE, wipeE, wo_some, wo_none, wm_c, wm_var, wm_frz, wm_bin, wm_un, wm_tst, wm_tru, wm_truB, wm_chain, wm_and, wm_or, wm_not, wm_andV, wm_orV, wm_notV, wm_ifE, wm_nil, wm_cons, wm_app, wm_noP, wm_part, wm_sl, wm_pk, wm_io, wm_ix, wm_inB, wm_true, wm_seq, wm_rng1, wm_rng2,
  then_nx, then_ret, then_rof, then_brk, then_cnt, ws_next, ws_brk, ws_cnt, ws_seq, ws_if, ws_ret, ws_rof, ws_drop, ws_set, ws_own, ws_asg, wo_TN, wo_TNil, wo_TCons, wo_TTup, ws_ap, ws_setIx, ws_for, for_nil, turn_nx, turn_cnt, turn_brk, turn_ret, turn_rof, wm_lc, end_ret, end_nx, end_rof, end_io, ownOf_own, valOf_val, frz_val, frz_own, cOwn_own, peek_val, peek_own, by_val, by_own, canSet_none, canSet_val, canSet_own, lstOf_list,
  List.getElem?_cons_zero, List.getElem?_cons_succ, List.set_cons_zero, List.set_cons_succ, List.length_cons, List.length_nil, wo_ite, wo_bind, ↓reduceIte, and_true, true_and, and_self, Bool.false_eq_true, Bool.not_true, Bool.not_false, decide_eq_true_eq, decide_true, decide_false, oneInt_int, twoInts_int,
  add_ii, add_ll, add_tt, add_ss, sub_ii, mul_ii, mulS_ii, mod_ii, fdiv_ii, neg_i, le_ii, gt_ii, ge_ii, eqT_ii, eqT_ss, eqT_bb, eqT_nn, ltT_ii, ltT_ss, wo_eqD, wo_neD, wo_ltD, wo_inD, wo_ninD, is_n, isnt_n, is_bb, isnt_bb, isN, bOf_b, iOf_i, tru_b, tru_n, tru_i, tru_l, tru_t, seq_l, seq_t, tup_l, tup_t, lst_l, lst_t, len_l, len_t, int_i, int_b, abs_i, max_ii, min_ii, ix_li, ix_ti, cut_l, cut_t, flat_i, flat_b, flat_s, ix0, ix1, ix2, mkTup, mkLst,
  add2_ll, ws_par3, three_c, ws_grp, empty_own, lOwnD_own, wm_lcW, wm_getD, wm_ind, ix3, ix4, ix_m2, ix_m1, ix_p2, ix_p1, wm_newD, ws_setK, wm_get, wm_ixK, wm_sortN, ws_ext, dOwn_own, lOwn_own, lsD_list, step_nx, step_cnt, step_brk, step_ret, step_rof, wm_reve, rev_l, rev_t, wm_opBL, repr_l, sort_l, sum_l, wm_enum, enum_l, enum_t, enumL_nil, wm_dic, wm_kvn, wm_kvc, seq_s, mulT_si, len_s, ord_c, str_i, ty_d, k_lb, k_li, k_ls, k_tb, k_ti, k_ts, k_db, k_di, k_ds, k_lt, k_tl,
  isi_1, tyOk_n, tyOk_b, tyOk_i, tyOk_s, tyOk_l, tyOk_t, ty_n, ty_b, ty_i, ty_s, ty_l, ty_t, k_nb, k_bb, k_ib, k_sb, k_ni, k_bi, k_ii, k_si, k_ns, k_bs, k_is, k_ss, k_ll, k_tt,
  Int.reduceNeg, Int.reducePow, Int.reduceLT, Int.reduceLE, Int.reduceAdd, Int.reduceSub, Int.reduceMul, Int.reduceToNat, Nat.reduceAdd, Nat.reduceLeDiff, Nat.reduceEqDiff, Int.reduceEq, reduceCtorEq, ws_grpL, empty_ownL, wo_TLst, wg_P, wg_end, wg_then, theng_nx, wg_yield, wm_callG, wo_runG, List.nil_append, hadd, hcs, optD, h4, h5]
      exact ⟨_, _, ⟨rfl, rfl⟩, by omega, rfl⟩
    · have hne : GV p ow (gk p ow q.length ++ [(s : Int)]) ≠ some v0 := by
        have := of_decide_eq_false (e4 s (by omega))
        rwa [hv0] at this
      cases hv : GV p ow (gk p ow q.length ++ [(s : Int)]) with
      | none =>
        rw [hv] at hcs
        have en : eqT PyData.none (.int v0) = some false := rfl
        simp only [backE, wipeE, wo_some, wo_none, wm_c, wm_var, wm_frz, wm_bin, wm_un, wm_tst, wm_tru, wm_truB, wm_chain, wm_and, wm_or, wm_not, wm_andV, wm_orV, wm_notV, wm_ifE, wm_nil, wm_cons, wm_app, wm_noP, wm_part, wm_sl, wm_pk, wm_io, wm_ix, wm_inB, wm_true, wm_seq, wm_rng1, wm_rng2,
  then_nx, then_ret, then_rof, then_brk, then_cnt, ws_next, ws_brk, ws_cnt, ws_seq, ws_if, ws_ret, ws_rof, ws_drop, ws_set, ws_own, ws_asg, wo_TN, wo_TNil, wo_TCons, wo_TTup, ws_ap, ws_setIx, ws_for, for_nil, turn_nx, turn_cnt, turn_brk, turn_ret, turn_rof, wm_lc, end_ret, end_nx, end_rof, end_io, ownOf_own, valOf_val, frz_val, frz_own, cOwn_own, peek_val, peek_own, by_val, by_own, canSet_none, canSet_val, canSet_own, lstOf_list,
  List.getElem?_cons_zero, List.getElem?_cons_succ, List.set_cons_zero, List.set_cons_succ, List.length_cons, List.length_nil, wo_ite, wo_bind, ↓reduceIte, and_true, true_and, and_self, Bool.false_eq_true, Bool.not_true, Bool.not_false, decide_eq_true_eq, decide_true, decide_false, oneInt_int, twoInts_int,
  add_ii, add_ll, add_tt, add_ss, sub_ii, mul_ii, mulS_ii, mod_ii, fdiv_ii, neg_i, le_ii, gt_ii, ge_ii, eqT_ii, eqT_ss, eqT_bb, eqT_nn, ltT_ii, ltT_ss, wo_eqD, wo_neD, wo_ltD, wo_inD, wo_ninD, is_n, isnt_n, is_bb, isnt_bb, isN, bOf_b, iOf_i, tru_b, tru_n, tru_i, tru_l, tru_t, seq_l, seq_t, tup_l, tup_t, lst_l, lst_t, len_l, len_t, int_i, int_b, abs_i, max_ii, min_ii, ix_li, ix_ti, cut_l, cut_t, flat_i, flat_b, flat_s, ix0, ix1, ix2, mkTup, mkLst,
  add2_ll, ws_par3, three_c, ws_grp, empty_own, lOwnD_own, wm_lcW, wm_getD, wm_ind, ix3, ix4, ix_m2, ix_m1, ix_p2, ix_p1, wm_newD, ws_setK, wm_get, wm_ixK, wm_sortN, ws_ext, dOwn_own, lOwn_own, lsD_list, step_nx, step_cnt, step_brk, step_ret, step_rof, wm_reve, rev_l, rev_t, wm_opBL, repr_l, sort_l, sum_l, wm_enum, enum_l, enum_t, enumL_nil, wm_dic, wm_kvn, wm_kvc, seq_s, mulT_si, len_s, ord_c, str_i, ty_d, k_lb, k_li, k_ls, k_tb, k_ti, k_ts, k_db, k_di, k_ds, k_lt, k_tl,
  isi_1, tyOk_n, tyOk_b, tyOk_i, tyOk_s, tyOk_l, tyOk_t, ty_n, ty_b, ty_i, ty_s, ty_l, ty_t, k_nb, k_bb, k_ib, k_sb, k_ni, k_bi, k_ii, k_si, k_ns, k_bs, k_is, k_ss, k_ll, k_tt,
  Int.reduceNeg, Int.reducePow, Int.reduceLT, Int.reduceLE, Int.reduceAdd, Int.reduceSub, Int.reduceMul, Int.reduceToNat, Nat.reduceAdd, Nat.reduceLeDiff, Nat.reduceEqDiff, Int.reduceEq, reduceCtorEq, ws_grpL, empty_ownL, wo_TLst, wg_P, wg_end, wg_then, theng_nx, wg_yield, wm_callG, wo_runG, List.nil_append, hadd, hcs, optD, en]
        exact ⟨t - (s + 1), by omega, s + 1, ⟨by omega, rfl⟩, rfl⟩
      | some v =>
        rw [hv] at hcs hne
        have hvv : ¬ v = v0 := fun z => hne (by rw [z])
        simp only [backE, wipeE, wo_some, wo_none, wm_c, wm_var, wm_frz, wm_bin, wm_un, wm_tst, wm_tru, wm_truB, wm_chain, wm_and, wm_or, wm_not, wm_andV, wm_orV, wm_notV, wm_ifE, wm_nil, wm_cons, wm_app, wm_noP, wm_part, wm_sl, wm_pk, wm_io, wm_ix, wm_inB, wm_true, wm_seq, wm_rng1, wm_rng2,
  then_nx, then_ret, then_rof, then_brk, then_cnt, ws_next, ws_brk, ws_cnt, ws_seq, ws_if, ws_ret, ws_rof, ws_drop, ws_set, ws_own, ws_asg, wo_TN, wo_TNil, wo_TCons, wo_TTup, ws_ap, ws_setIx, ws_for, for_nil, turn_nx, turn_cnt, turn_brk, turn_ret, turn_rof, wm_lc, end_ret, end_nx, end_rof, end_io, ownOf_own, valOf_val, frz_val, frz_own, cOwn_own, peek_val, peek_own, by_val, by_own, canSet_none, canSet_val, canSet_own, lstOf_list,
  List.getElem?_cons_zero, List.getElem?_cons_succ, List.set_cons_zero, List.set_cons_succ, List.length_cons, List.length_nil, wo_ite, wo_bind, ↓reduceIte, and_true, true_and, and_self, Bool.false_eq_true, Bool.not_true, Bool.not_false, decide_eq_true_eq, decide_true, decide_false, oneInt_int, twoInts_int,
  add_ii, add_ll, add_tt, add_ss, sub_ii, mul_ii, mulS_ii, mod_ii, fdiv_ii, neg_i, le_ii, gt_ii, ge_ii, eqT_ii, eqT_ss, eqT_bb, eqT_nn, ltT_ii, ltT_ss, wo_eqD, wo_neD, wo_ltD, wo_inD, wo_ninD, is_n, isnt_n, is_bb, isnt_bb, isN, bOf_b, iOf_i, tru_b, tru_n, tru_i, tru_l, tru_t, seq_l, seq_t, tup_l, tup_t, lst_l, lst_t, len_l, len_t, int_i, int_b, abs_i, max_ii, min_ii, ix_li, ix_ti, cut_l, cut_t, flat_i, flat_b, flat_s, ix0, ix1, ix2, mkTup, mkLst,
  add2_ll, ws_par3, three_c, ws_grp, empty_own, lOwnD_own, wm_lcW, wm_getD, wm_ind, ix3, ix4, ix_m2, ix_m1, ix_p2, ix_p1, wm_newD, ws_setK, wm_get, wm_ixK, wm_sortN, ws_ext, dOwn_own, lOwn_own, lsD_list, step_nx, step_cnt, step_brk, step_ret, step_rof, wm_reve, rev_l, rev_t, wm_opBL, repr_l, sort_l, sum_l, wm_enum, enum_l, enum_t, enumL_nil, wm_dic, wm_kvn, wm_kvc, seq_s, mulT_si, len_s, ord_c, str_i, ty_d, k_lb, k_li, k_ls, k_tb, k_ti, k_ts, k_db, k_di, k_ds, k_lt, k_tl,
  isi_1, tyOk_n, tyOk_b, tyOk_i, tyOk_s, tyOk_l, tyOk_t, ty_n, ty_b, ty_i, ty_s, ty_l, ty_t, k_nb, k_bb, k_ib, k_sb, k_ni, k_bi, k_ii, k_si, k_ns, k_bs, k_is, k_ss, k_ll, k_tt,
  Int.reduceNeg, Int.reducePow, Int.reduceLT, Int.reduceLE, Int.reduceAdd, Int.reduceSub, Int.reduceMul, Int.reduceToNat, Nat.reduceAdd, Nat.reduceLeDiff, Nat.reduceEqDiff, Int.reduceEq, reduceCtorEq, ws_grpL, empty_ownL, wo_TLst, wg_P, wg_end, wg_then, theng_nx, wg_yield, wm_callG, wo_runG, List.nil_append, hadd, hcs, optD, hvv]
        exact ⟨t - (s + 1), by omega, s + 1, ⟨by omega, rfl⟩, rfl⟩
  · rintro ρ' ⟨o4, o5, _, hq, rfl⟩
    simp only [backE, wipeE, wo_some, wo_none, wm_c, wm_var, wm_frz, wm_bin, wm_un, wm_tst, wm_tru, wm_truB, wm_chain, wm_and, wm_or, wm_not, wm_andV, wm_orV, wm_notV, wm_ifE, wm_nil, wm_cons, wm_app, wm_noP, wm_part, wm_sl, wm_pk, wm_io, wm_ix, wm_inB, wm_true, wm_seq, wm_rng1, wm_rng2,
  then_nx, then_ret, then_rof, then_brk, then_cnt, ws_next, ws_brk, ws_cnt, ws_seq, ws_if, ws_ret, ws_rof, ws_drop, ws_set, ws_own, ws_asg, wo_TN, wo_TNil, wo_TCons, wo_TTup, ws_ap, ws_setIx, ws_for, for_nil, turn_nx, turn_cnt, turn_brk, turn_ret, turn_rof, wm_lc, end_ret, end_nx, end_rof, end_io, ownOf_own, valOf_val, frz_val, frz_own, cOwn_own, peek_val, peek_own, by_val, by_own, canSet_none, canSet_val, canSet_own, lstOf_list,
  List.getElem?_cons_zero, List.getElem?_cons_succ, List.set_cons_zero, List.set_cons_succ, List.length_cons, List.length_nil, wo_ite, wo_bind, ↓reduceIte, and_true, true_and, and_self, Bool.false_eq_true, Bool.not_true, Bool.not_false, decide_eq_true_eq, decide_true, decide_false, oneInt_int, twoInts_int,
  add_ii, add_ll, add_tt, add_ss, sub_ii, mul_ii, mulS_ii, mod_ii, fdiv_ii, neg_i, le_ii, gt_ii, ge_ii, eqT_ii, eqT_ss, eqT_bb, eqT_nn, ltT_ii, ltT_ss, wo_eqD, wo_neD, wo_ltD, wo_inD, wo_ninD, is_n, isnt_n, is_bb, isnt_bb, isN, bOf_b, iOf_i, tru_b, tru_n, tru_i, tru_l, tru_t, seq_l, seq_t, tup_l, tup_t, lst_l, lst_t, len_l, len_t, int_i, int_b, abs_i, max_ii, min_ii, ix_li, ix_ti, cut_l, cut_t, flat_i, flat_b, flat_s, ix0, ix1, ix2, mkTup, mkLst,
  add2_ll, ws_par3, three_c, ws_grp, empty_own, lOwnD_own, wm_lcW, wm_getD, wm_ind, ix3, ix4, ix_m2, ix_m1, ix_p2, ix_p1, wm_newD, ws_setK, wm_get, wm_ixK, wm_sortN, ws_ext, dOwn_own, lOwn_own, lsD_list, step_nx, step_cnt, step_brk, step_ret, step_rof, wm_reve, rev_l, rev_t, wm_opBL, repr_l, sort_l, sum_l, wm_enum, enum_l, enum_t, enumL_nil, wm_dic, wm_kvn, wm_kvc, seq_s, mulT_si, len_s, ord_c, str_i, ty_d, k_lb, k_li, k_ls, k_tb, k_ti, k_ts, k_db, k_di, k_ds, k_lt, k_tl,
  isi_1, tyOk_n, tyOk_b, tyOk_i, tyOk_s, tyOk_l, tyOk_t, ty_n, ty_b, ty_i, ty_s, ty_l, ty_t, k_nb, k_bb, k_ib, k_sb, k_ni, k_bi, k_ii, k_si, k_ns, k_bs, k_is, k_ss, k_ll, k_tt,
  Int.reduceNeg, Int.reducePow, Int.reduceLT, Int.reduceLE, Int.reduceAdd, Int.reduceSub, Int.reduceMul, Int.reduceToNat, Nat.reduceAdd, Nat.reduceLeDiff, Nat.reduceEqDiff, Int.reduceEq, reduceCtorEq, ws_grpL, empty_ownL, wo_TLst, wg_P, wg_end, wg_then, theng_nx, wg_yield, wm_callG, wo_runG, List.nil_append]
    rw [List.length_range]
theorem filter_one (P : Nat → Bool) (L : List Nat) : (L.filter P).take 1 = (L.find? P).toList := by
  rw [← List.head?_filter]
  cases L.filter P <;> rfl
theorem least_fold : ∀ (ns : List Int) (n : Int), ns.foldl (fun m x => if x < m then x else m) n = n ∨ ns.foldl (fun m x => if x < m then x else m) n ∈ ns
  | [], n => .inl rfl
  | x :: ns, n => by
    rw [List.foldl_cons]
    rcases least_fold ns (if x < n then x else n) with h | h
    · by_cases c : x < n
      · rw [if_pos c] at h ⊢
        exact .inr (by rw [h]; exact List.mem_cons_self)
      · rw [if_neg c] at h ⊢
        exact .inl h
    · exact .inr (List.mem_cons_of_mem _ h)
theorem min1_rg {p : Nat} (hp : 1 ≤ p) (f : Nat → Int) : ∃ t, t < p ∧ min1F [.list ((List.range p).map fun t => PyData.int (f t))] = some (.int (f t)) := by
  rw [map_int]
  have key : ∃ y ∈ (List.range p).map f, min1F [.list (((List.range p).map f).map PyData.int)] = some (.int y) := by
    cases e : (List.range p).map f with
    | nil => have := congrArg List.length e; simp at this; omega
    | cons x xs =>
      have h1 : min1F [.list ((x :: xs).map PyData.int)] = some (.int (xs.foldl (fun m x => if x < m then x else m) x)) := by
        show (Dn.numsOf _).bind (fun ns => (leastI ns).bind fun m => some (PyData.int m)) = _
        rw [Dn.nums_map]
        rfl
      refine ⟨_, ?_, h1⟩
      rcases least_fold xs x with h | h
      · rw [h]; exact List.mem_cons_self
      · exact List.mem_cons_of_mem _ h
  obtain ⟨y, hy, e⟩ := key
  obtain ⟨t, ht, rfl⟩ := List.mem_map.mp hy
  exact ⟨t, List.mem_range.mp ht, e⟩
theorem four_of {d : Int} (h0 : 0 ≤ d) (h1 : d < 4) : ∃ m : Nat, four m ∧ 1 + d = (m : Int) := by
  refine ⟨(1 + d).toNat, ?_, by omega⟩
  unfold four
  omega
theorem law_rest {ns : List Int} {m p : Nat} {n4 : Int} (hm : four m) (hp : four p) {ow : List Int} (ho : ow.length = 16) : Ws (forD (gTN 6) (sSeq (sSet 7 (gApp f__law_fewest (gCons (gVar 4) (gCons (gVar 5) (gCons (gVar 3) gNil)))))
  (sSeq (sOwn 8 (gLc [13] (gRng1 (gCons (gVar 3) gNil)) (gTN 13) (gTst (gBin eqD (gApp f__law_fewest (gCons (gVar 4) (gCons (gBin addD (gVar 5) (gApp mkLst (gCons (gVar 13) gNil))) (gCons (gVar 3) gNil)))) (gVar 7))) (gVar 13)))
  (sSet 5 (gBin addD (gVar 5) (gSl (gFrz 8) gNoP (gPart (gC (.int 1)))))))) ((List.range 16).map fun i : Nat => PyData.int i)) [some (.val (.list (ns.map PyData.int))), some (.own false (.list [.int n4])), some (.val (.int m)), some (.val (.int p)), some (.val (intsT ow)), some (.val (.list [])), none, none, none, none, none, none, none, none] (thenQ (sSeq (sSet 9 (gApp f_owners_for (gCons (gVar 4) (gCons (gVar 3) gNil))))
  (sSeq (sIf (gOr (gNot (gTru (gApp (isiF "tuple") (gCons (gVar 9) gNil)))) (gOr (gTst (gBin neD (gApp lstF (gCons (gVar 9) gNil)) (gVar 5))) (gTst (gBin neD (gApp f_owners_for (gCons (gVar 9) (gCons (gVar 3) gNil))) (gVar 9))))) (sRet (gC (.bool false))) sNext)
  (sSeq (sOwn 10 (gLc [11] (gRng1 (gCons (gVar 3) gNil)) (gTN 11) gTrue (gApp lenF (gCons (gLc [13] (gSeq (gVar 9)) (gTN 13) (gTst (gBin eqD (gVar 13) (gVar 11))) (gVar 13)) gNil))))
  (sSeq (sIf (gOr (gTst (gBin gtD (gBin subD (gApp max1F (gCons (gFrz 10) gNil)) (gApp min1F (gCons (gFrz 10) gNil))) (gC (.int 1)))) (gTst (gBin neD (gApp sumF (gCons (gFrz 10) gNil)) (gC (.int 16))))) (sRet (gC (.bool false))) sNext)
  (sRet (gOrV (gBin neD (gVar 2) (gVar 3)) (gOrV (gBin neD (gVar 4) (gApp f_even_owners (gCons (gVar 2) gNil))) (gBin eqD (gVar 9) (gVar 4))))))))) fun f ρ => Wo (endV (f, ρ)) fun x => x = PyData.bool true) := by
  obtain ⟨_, hm1, hm4⟩ := four_low hm
  obtain ⟨_, hp1, hp4⟩ := four_low hp
  have hp62 : small62 ((p : Nat) : Int) = true := small_nat (by omega)
  obtain ⟨gok, gst⟩ := gk_ok hp ho 16 (Nat.le_refl _)
  obtain ⟨v0, hv0⟩ := gv_nil hp ow
  have hfw := fun (c : List Int) (hl : c.length ≤ 16) => sp_fewest hp (ow := ow) (c := c) ho hl
  refine ws_forA (fun i : Nat => PyData.int i) (fun q ρ => ∃ (o6 o7 o8 : Option Cell), (canSet (some o6) = some () ∧ canSet (some o7) = some () ∧ canSet (some o8) = some ()) ∧ ρ = [some (.val (.list (ns.map PyData.int))), some (.own false (.list [.int n4])), some (.val (.int m)), some (.val (.int p)), some (.val (intsT ow)), some (.val (intsL (gk p ow q.length))), o6, o7, o8, none, none, none, none, none]) ⟨none, none, none, ⟨rfl, rfl, rfl⟩, rfl⟩ ?_ ?_
  · rintro q x r ρ e ⟨o6, o7, o8, ⟨h6, h7, h8⟩, rfl⟩
    have hq16 : q.length < 16 := by
      have := congrArg List.length e
      rw [List.length_range, List.length_append, List.length_cons] at this
      omega
    obtain ⟨g, _⟩ := gk_ok hp ho q.length (by omega)
    obtain ⟨t, ht, e1, e2, e3, e4⟩ := gst q.length hq16
    have hx1 : (q ++ [x]).length = q.length + 1 := by simp
    have hf0 := hfw (gk p ow q.length) (by rw [g.len]; omega)
    rw [g.gv, hv0] at hf0
    rw [hx1, e1]
    simp only [backE, wipeE, wo_some, wo_none, wm_c, wm_var, wm_frz, wm_bin, wm_un, wm_tst, wm_tru, wm_truB, wm_chain, wm_and, wm_or, wm_not, wm_andV, wm_orV, wm_notV, wm_ifE, wm_nil, wm_cons, wm_app, wm_noP, wm_part, wm_sl, wm_pk, wm_io, wm_ix, wm_inB, wm_true, wm_seq, wm_rng1, wm_rng2,
  then_nx, then_ret, then_rof, then_brk, then_cnt, ws_next, ws_brk, ws_cnt, ws_seq, ws_if, ws_ret, ws_rof, ws_drop, ws_set, ws_own, ws_asg, wo_TN, wo_TNil, wo_TCons, wo_TTup, ws_ap, ws_setIx, ws_for, for_nil, turn_nx, turn_cnt, turn_brk, turn_ret, turn_rof, wm_lc, end_ret, end_nx, end_rof, end_io, ownOf_own, valOf_val, frz_val, frz_own, cOwn_own, peek_val, peek_own, by_val, by_own, canSet_none, canSet_val, canSet_own, lstOf_list,
  List.getElem?_cons_zero, List.getElem?_cons_succ, List.set_cons_zero, List.set_cons_succ, List.length_cons, List.length_nil, wo_ite, wo_bind, ↓reduceIte, and_true, true_and, and_self, Bool.false_eq_true, Bool.not_true, Bool.not_false, decide_eq_true_eq, decide_true, decide_false, oneInt_int, twoInts_int,
  add_ii, add_ll, add_tt, add_ss, sub_ii, mul_ii, mulS_ii, mod_ii, fdiv_ii, neg_i, le_ii, gt_ii, ge_ii, eqT_ii, eqT_ss, eqT_bb, eqT_nn, ltT_ii, ltT_ss, wo_eqD, wo_neD, wo_ltD, wo_inD, wo_ninD, is_n, isnt_n, is_bb, isnt_bb, isN, bOf_b, iOf_i, tru_b, tru_n, tru_i, tru_l, tru_t, seq_l, seq_t, tup_l, tup_t, lst_l, lst_t, len_l, len_t, int_i, int_b, abs_i, max_ii, min_ii, ix_li, ix_ti, cut_l, cut_t, flat_i, flat_b, flat_s, ix0, ix1, ix2, mkTup, mkLst,
  add2_ll, ws_par3, three_c, ws_grp, empty_own, lOwnD_own, wm_lcW, wm_getD, wm_ind, ix3, ix4, ix_m2, ix_m1, ix_p2, ix_p1, wm_newD, ws_setK, wm_get, wm_ixK, wm_sortN, ws_ext, dOwn_own, lOwn_own, lsD_list, step_nx, step_cnt, step_brk, step_ret, step_rof, wm_reve, rev_l, rev_t, wm_opBL, repr_l, sort_l, sum_l, wm_enum, enum_l, enum_t, enumL_nil, wm_dic, wm_kvn, wm_kvc, seq_s, mulT_si, len_s, ord_c, str_i, ty_d, k_lb, k_li, k_ls, k_tb, k_ti, k_ts, k_db, k_di, k_ds, k_lt, k_tl,
  isi_1, tyOk_n, tyOk_b, tyOk_i, tyOk_s, tyOk_l, tyOk_t, ty_n, ty_b, ty_i, ty_s, ty_l, ty_t, k_nb, k_bb, k_ib, k_sb, k_ni, k_bi, k_ii, k_si, k_ns, k_bs, k_is, k_ss, k_ll, k_tt,
  Int.reduceNeg, Int.reducePow, Int.reduceLT, Int.reduceLE, Int.reduceAdd, Int.reduceSub, Int.reduceMul, Int.reduceToNat, Nat.reduceAdd, Nat.reduceLeDiff, Nat.reduceEqDiff, Int.reduceEq, reduceCtorEq, ws_grpL, empty_ownL, wo_TLst, wg_P, wg_end, wg_then, theng_nx, wg_yield, wm_callG, wo_runG, List.nil_append, h6, h7, hf0, optD, hp62, rng_map, Int.toNat_natCast, List.length_map, List.length_range]
    refine ⟨⟨by omega, rfl⟩, ?_⟩
    refine lc_filterA (fun i : Nat => PyData.int i) (fun i : Nat => PyData.int i) (okT p ow (gk p ow q.length)) _ (fun s hs => ?_) ?_
    · have hs := List.mem_range.mp hs
      have hadd : addD (intsL (gk p ow q.length)) (.list [.int (s : Int)]) = some (intsL (gk p ow q.length ++ [(s : Int)])) := by
        unfold intsL
        rw [add_ll, if_pos (by rw [List.length_map, g.len]; simp; omega), List.map_append]
        rfl
      have hcs := hfw (gk p ow q.length ++ [(s : Int)]) (by rw [List.length_append, g.len]; simp; omega)
      have hok : okT p ow (gk p ow q.length) s = decide (GV p ow (gk p ow q.length ++ [(s : Int)]) = some v0) := by unfold okT; rw [hv0]
      rw [hok]
      cases hv : GV p ow (gk p ow q.length ++ [(s : Int)]) with
      | none =>
        rw [hv] at hcs
        have en : eqT PyData.none (.int v0) = some false := rfl
        simp only [backE, wipeE, wo_some, wo_none, wm_c, wm_var, wm_frz, wm_bin, wm_un, wm_tst, wm_tru, wm_truB, wm_chain, wm_and, wm_or, wm_not, wm_andV, wm_orV, wm_notV, wm_ifE, wm_nil, wm_cons, wm_app, wm_noP, wm_part, wm_sl, wm_pk, wm_io, wm_ix, wm_inB, wm_true, wm_seq, wm_rng1, wm_rng2,
  then_nx, then_ret, then_rof, then_brk, then_cnt, ws_next, ws_brk, ws_cnt, ws_seq, ws_if, ws_ret, ws_rof, ws_drop, ws_set, ws_own, ws_asg, wo_TN, wo_TNil, wo_TCons, wo_TTup, ws_ap, ws_setIx, ws_for, for_nil, turn_nx, turn_cnt, turn_brk, turn_ret, turn_rof, wm_lc, end_ret, end_nx, end_rof, end_io, ownOf_own, valOf_val, frz_val, frz_own, cOwn_own, peek_val, peek_own, by_val, by_own, canSet_none, canSet_val, canSet_own, lstOf_list,
  List.getElem?_cons_zero, List.getElem?_cons_succ, List.set_cons_zero, List.set_cons_succ, List.length_cons, List.length_nil, wo_ite, wo_bind, ↓reduceIte, and_true, true_and, and_self, Bool.false_eq_true, Bool.not_true, Bool.not_false, decide_eq_true_eq, decide_true, decide_false, oneInt_int, twoInts_int,
  add_ii, add_ll, add_tt, add_ss, sub_ii, mul_ii, mulS_ii, mod_ii, fdiv_ii, neg_i, le_ii, gt_ii, ge_ii, eqT_ii, eqT_ss, eqT_bb, eqT_nn, ltT_ii, ltT_ss, wo_eqD, wo_neD, wo_ltD, wo_inD, wo_ninD, is_n, isnt_n, is_bb, isnt_bb, isN, bOf_b, iOf_i, tru_b, tru_n, tru_i, tru_l, tru_t, seq_l, seq_t, tup_l, tup_t, lst_l, lst_t, len_l, len_t, int_i, int_b, abs_i, max_ii, min_ii, ix_li, ix_ti, cut_l, cut_t, flat_i, flat_b, flat_s, ix0, ix1, ix2, mkTup, mkLst,
  add2_ll, ws_par3, three_c, ws_grp, empty_own, lOwnD_own, wm_lcW, wm_getD, wm_ind, ix3, ix4, ix_m2, ix_m1, ix_p2, ix_p1, wm_newD, ws_setK, wm_get, wm_ixK, wm_sortN, ws_ext, dOwn_own, lOwn_own, lsD_list, step_nx, step_cnt, step_brk, step_ret, step_rof, wm_reve, rev_l, rev_t, wm_opBL, repr_l, sort_l, sum_l, wm_enum, enum_l, enum_t, enumL_nil, wm_dic, wm_kvn, wm_kvc, seq_s, mulT_si, len_s, ord_c, str_i, ty_d, k_lb, k_li, k_ls, k_tb, k_ti, k_ts, k_db, k_di, k_ds, k_lt, k_tl,
  isi_1, tyOk_n, tyOk_b, tyOk_i, tyOk_s, tyOk_l, tyOk_t, ty_n, ty_b, ty_i, ty_s, ty_l, ty_t, k_nb, k_bb, k_ib, k_sb, k_ni, k_bi, k_ii, k_si, k_ns, k_bs, k_is, k_ss, k_ll, k_tt,
  Int.reduceNeg, Int.reducePow, Int.reduceLT, Int.reduceLE, Int.reduceAdd, Int.reduceSub, Int.reduceMul, Int.reduceToNat, Nat.reduceAdd, Nat.reduceLeDiff, Nat.reduceEqDiff, Int.reduceEq, reduceCtorEq, ws_grpL, empty_ownL, wo_TLst, wg_P, wg_end, wg_then, theng_nx, wg_yield, wm_callG, wo_runG, List.nil_append, hadd, hcs, optD, en]
        first | exact ⟨by simp, fun _ => trivial, fun _ => trivial⟩ | exact fun _ => trivial | trivial | simp
      | some v =>
        rw [hv] at hcs
        simp only [backE, wipeE, wo_some, wo_none, wm_c, wm_var, wm_frz, wm_bin, wm_un, wm_tst, wm_tru, wm_truB, wm_chain, wm_and, wm_or, wm_not, wm_andV, wm_orV, wm_notV, wm_ifE, wm_nil, wm_cons, wm_app, wm_noP, wm_part, wm_sl, wm_pk, wm_io, wm_ix, wm_inB, wm_true, wm_seq, wm_rng1, wm_rng2,
  then_nx, then_ret, then_rof, then_brk, then_cnt, ws_next, ws_brk, ws_cnt, ws_seq, ws_if, ws_ret, ws_rof, ws_drop, ws_set, ws_own, ws_asg, wo_TN, wo_TNil, wo_TCons, wo_TTup, ws_ap, ws_setIx, ws_for, for_nil, turn_nx, turn_cnt, turn_brk, turn_ret, turn_rof, wm_lc, end_ret, end_nx, end_rof, end_io, ownOf_own, valOf_val, frz_val, frz_own, cOwn_own, peek_val, peek_own, by_val, by_own, canSet_none, canSet_val, canSet_own, lstOf_list,
  List.getElem?_cons_zero, List.getElem?_cons_succ, List.set_cons_zero, List.set_cons_succ, List.length_cons, List.length_nil, wo_ite, wo_bind, ↓reduceIte, and_true, true_and, and_self, Bool.false_eq_true, Bool.not_true, Bool.not_false, decide_eq_true_eq, decide_true, decide_false, oneInt_int, twoInts_int,
  add_ii, add_ll, add_tt, add_ss, sub_ii, mul_ii, mulS_ii, mod_ii, fdiv_ii, neg_i, le_ii, gt_ii, ge_ii, eqT_ii, eqT_ss, eqT_bb, eqT_nn, ltT_ii, ltT_ss, wo_eqD, wo_neD, wo_ltD, wo_inD, wo_ninD, is_n, isnt_n, is_bb, isnt_bb, isN, bOf_b, iOf_i, tru_b, tru_n, tru_i, tru_l, tru_t, seq_l, seq_t, tup_l, tup_t, lst_l, lst_t, len_l, len_t, int_i, int_b, abs_i, max_ii, min_ii, ix_li, ix_ti, cut_l, cut_t, flat_i, flat_b, flat_s, ix0, ix1, ix2, mkTup, mkLst,
  add2_ll, ws_par3, three_c, ws_grp, empty_own, lOwnD_own, wm_lcW, wm_getD, wm_ind, ix3, ix4, ix_m2, ix_m1, ix_p2, ix_p1, wm_newD, ws_setK, wm_get, wm_ixK, wm_sortN, ws_ext, dOwn_own, lOwn_own, lsD_list, step_nx, step_cnt, step_brk, step_ret, step_rof, wm_reve, rev_l, rev_t, wm_opBL, repr_l, sort_l, sum_l, wm_enum, enum_l, enum_t, enumL_nil, wm_dic, wm_kvn, wm_kvc, seq_s, mulT_si, len_s, ord_c, str_i, ty_d, k_lb, k_li, k_ls, k_tb, k_ti, k_ts, k_db, k_di, k_ds, k_lt, k_tl,
  isi_1, tyOk_n, tyOk_b, tyOk_i, tyOk_s, tyOk_l, tyOk_t, ty_n, ty_b, ty_i, ty_s, ty_l, ty_t, k_nb, k_bb, k_ib, k_sb, k_ni, k_bi, k_ii, k_si, k_ns, k_bs, k_is, k_ss, k_ll, k_tt,
  Int.reduceNeg, Int.reducePow, Int.reduceLT, Int.reduceLE, Int.reduceAdd, Int.reduceSub, Int.reduceMul, Int.reduceToNat, Nat.reduceAdd, Nat.reduceLeDiff, Nat.reduceEqDiff, Int.reduceEq, reduceCtorEq, ws_grpL, empty_ownL, wo_TLst, wg_P, wg_end, wg_then, theng_nx, wg_yield, wm_callG, wo_runG, List.nil_append, hadd, hcs, optD]
        first | exact ⟨by simp, fun _ => trivial, fun _ => trivial⟩ | exact fun _ => trivial | trivial | simp
    · have hcut : cutD (.list (((List.range p).filter (okT p ow (gk p ow q.length))).map fun i : Nat => PyData.int i)) none (some 1) = some (.list [.int (t : Int)]) := by
        have hc1 : ∀ xs : List D, cutA xs none (some 1) = xs.take 1 := fun xs => cut_take xs 1
        rw [cut_l, hc1, ← List.map_take, filter_one, e2]
        rfl
      have hadd : addD (intsL (gk p ow q.length)) (.list [.int (t : Int)]) = some (intsL (gk p ow q.length ++ [(t : Int)])) := by
        unfold intsL
        rw [add_ll, if_pos (by rw [List.length_map, g.len]; simp; omega), List.map_append]
        rfl
      simp only [backE, wipeE, wo_some, wo_none, wm_c, wm_var, wm_frz, wm_bin, wm_un, wm_tst, wm_tru, wm_truB, wm_chain, wm_and, wm_or, wm_not, wm_andV, wm_orV, wm_notV, wm_ifE, wm_nil, wm_cons, wm_app, wm_noP, wm_part, wm_sl, wm_pk, wm_io, wm_ix, wm_inB, wm_true, wm_seq, wm_rng1, wm_rng2,
  then_nx, then_ret, then_rof, then_brk, then_cnt, ws_next, ws_brk, ws_cnt, ws_seq, ws_if, ws_ret, ws_rof, ws_drop, ws_set, ws_own, ws_asg, wo_TN, wo_TNil, wo_TCons, wo_TTup, ws_ap, ws_setIx, ws_for, for_nil, turn_nx, turn_cnt, turn_brk, turn_ret, turn_rof, wm_lc, end_ret, end_nx, end_rof, end_io, ownOf_own, valOf_val, frz_val, frz_own, cOwn_own, peek_val, peek_own, by_val, by_own, canSet_none, canSet_val, canSet_own, lstOf_list,
  List.getElem?_cons_zero, List.getElem?_cons_succ, List.set_cons_zero, List.set_cons_succ, List.length_cons, List.length_nil, wo_ite, wo_bind, ↓reduceIte, and_true, true_and, and_self, Bool.false_eq_true, Bool.not_true, Bool.not_false, decide_eq_true_eq, decide_true, decide_false, oneInt_int, twoInts_int,
  add_ii, add_ll, add_tt, add_ss, sub_ii, mul_ii, mulS_ii, mod_ii, fdiv_ii, neg_i, le_ii, gt_ii, ge_ii, eqT_ii, eqT_ss, eqT_bb, eqT_nn, ltT_ii, ltT_ss, wo_eqD, wo_neD, wo_ltD, wo_inD, wo_ninD, is_n, isnt_n, is_bb, isnt_bb, isN, bOf_b, iOf_i, tru_b, tru_n, tru_i, tru_l, tru_t, seq_l, seq_t, tup_l, tup_t, lst_l, lst_t, len_l, len_t, int_i, int_b, abs_i, max_ii, min_ii, ix_li, ix_ti, cut_l, cut_t, flat_i, flat_b, flat_s, ix0, ix1, ix2, mkTup, mkLst,
  add2_ll, ws_par3, three_c, ws_grp, empty_own, lOwnD_own, wm_lcW, wm_getD, wm_ind, ix3, ix4, ix_m2, ix_m1, ix_p2, ix_p1, wm_newD, ws_setK, wm_get, wm_ixK, wm_sortN, ws_ext, dOwn_own, lOwn_own, lsD_list, step_nx, step_cnt, step_brk, step_ret, step_rof, wm_reve, rev_l, rev_t, wm_opBL, repr_l, sort_l, sum_l, wm_enum, enum_l, enum_t, enumL_nil, wm_dic, wm_kvn, wm_kvc, seq_s, mulT_si, len_s, ord_c, str_i, ty_d, k_lb, k_li, k_ls, k_tb, k_ti, k_ts, k_db, k_di, k_ds, k_lt, k_tl,
  isi_1, tyOk_n, tyOk_b, tyOk_i, tyOk_s, tyOk_l, tyOk_t, ty_n, ty_b, ty_i, ty_s, ty_l, ty_t, k_nb, k_bb, k_ib, k_sb, k_ni, k_bi, k_ii, k_si, k_ns, k_bs, k_is, k_ss, k_ll, k_tt,
  Int.reduceNeg, Int.reducePow, Int.reduceLT, Int.reduceLE, Int.reduceAdd, Int.reduceSub, Int.reduceMul, Int.reduceToNat, Nat.reduceAdd, Nat.reduceLeDiff, Nat.reduceEqDiff, Int.reduceEq, reduceCtorEq, ws_grpL, empty_ownL, wo_TLst, wg_P, wg_end, wg_then, theng_nx, wg_yield, wm_callG, wo_runG, List.nil_append, backE, h8, hcut, hadd]
      exact ⟨some (.val (.int (x : Int))), some (.val (.int v0)), some (.val (.list (((List.range p).filter (okT p ow (gk p ow q.length))).map fun i : Nat => PyData.int i))), ⟨rfl, rfl, rfl⟩, rfl⟩
  · rintro ρ' ⟨o6, o7, o8, ⟨h6, h7, h8⟩, rfl⟩
    rw [List.length_range]
    have hso := sp_owners_for hp ho
    have hev := gk_even hp ho
    have hso2 := sp_owners_for hp hev.1
    have hstay := gk_stay hp hev 16 (Nat.le_refl _)
    rw [List.take_of_length_le (by rw [hev.1]; omega)] at hstay
    rw [hstay] at hso2
    generalize hT : gk p ow 16 = T at hso hev hso2 hstay ⊢
    obtain ⟨hTl, hTi, R, hR, hTc⟩ := hev
    have hRs := rich_sum hp hR
    have hlst : eqT (.list (T.map PyData.int)) (.list (T.map PyData.int)) = some true := eq_intsL T
    have hee : ∀ a b : List Int, eqT (intsT a) (intsT b) = some (decide (a = b)) := eq_intsT
    have htt : eqT (intsT T) (intsT T) = some true := (hee T T).trans (by simp)
    have hto : eqT (intsT T) (intsT ow) = some (decide (T = ow)) := hee T ow
    have hTd : intsT T = .tuple (T.map PyData.int) := rfl
    have hLd : intsL T = .list (T.map PyData.int) := rfl
    rw [hTd] at hso hso2 htt hto
    rw [hLd]
    simp only [backE, wipeE, wo_some, wo_none, wm_c, wm_var, wm_frz, wm_bin, wm_un, wm_tst, wm_tru, wm_truB, wm_chain, wm_and, wm_or, wm_not, wm_andV, wm_orV, wm_notV, wm_ifE, wm_nil, wm_cons, wm_app, wm_noP, wm_part, wm_sl, wm_pk, wm_io, wm_ix, wm_inB, wm_true, wm_seq, wm_rng1, wm_rng2,
  then_nx, then_ret, then_rof, then_brk, then_cnt, ws_next, ws_brk, ws_cnt, ws_seq, ws_if, ws_ret, ws_rof, ws_drop, ws_set, ws_own, ws_asg, wo_TN, wo_TNil, wo_TCons, wo_TTup, ws_ap, ws_setIx, ws_for, for_nil, turn_nx, turn_cnt, turn_brk, turn_ret, turn_rof, wm_lc, end_ret, end_nx, end_rof, end_io, ownOf_own, valOf_val, frz_val, frz_own, cOwn_own, peek_val, peek_own, by_val, by_own, canSet_none, canSet_val, canSet_own, lstOf_list,
  List.getElem?_cons_zero, List.getElem?_cons_succ, List.set_cons_zero, List.set_cons_succ, List.length_cons, List.length_nil, wo_ite, wo_bind, ↓reduceIte, and_true, true_and, and_self, Bool.false_eq_true, Bool.not_true, Bool.not_false, decide_eq_true_eq, decide_true, decide_false, oneInt_int, twoInts_int,
  add_ii, add_ll, add_tt, add_ss, sub_ii, mul_ii, mulS_ii, mod_ii, fdiv_ii, neg_i, le_ii, gt_ii, ge_ii, eqT_ii, eqT_ss, eqT_bb, eqT_nn, ltT_ii, ltT_ss, wo_eqD, wo_neD, wo_ltD, wo_inD, wo_ninD, is_n, isnt_n, is_bb, isnt_bb, isN, bOf_b, iOf_i, tru_b, tru_n, tru_i, tru_l, tru_t, seq_l, seq_t, tup_l, tup_t, lst_l, lst_t, len_l, len_t, int_i, int_b, abs_i, max_ii, min_ii, ix_li, ix_ti, cut_l, cut_t, flat_i, flat_b, flat_s, ix0, ix1, ix2, mkTup, mkLst,
  add2_ll, ws_par3, three_c, ws_grp, empty_own, lOwnD_own, wm_lcW, wm_getD, wm_ind, ix3, ix4, ix_m2, ix_m1, ix_p2, ix_p1, wm_newD, ws_setK, wm_get, wm_ixK, wm_sortN, ws_ext, dOwn_own, lOwn_own, lsD_list, step_nx, step_cnt, step_brk, step_ret, step_rof, wm_reve, rev_l, rev_t, wm_opBL, repr_l, sort_l, sum_l, wm_enum, enum_l, enum_t, enumL_nil, wm_dic, wm_kvn, wm_kvc, seq_s, mulT_si, len_s, ord_c, str_i, ty_d, k_lb, k_li, k_ls, k_tb, k_ti, k_ts, k_db, k_di, k_ds, k_lt, k_tl,
  isi_1, tyOk_n, tyOk_b, tyOk_i, tyOk_s, tyOk_l, tyOk_t, ty_n, ty_b, ty_i, ty_s, ty_l, ty_t, k_nb, k_bb, k_ib, k_sb, k_ni, k_bi, k_ii, k_si, k_ns, k_bs, k_is, k_ss, k_ll, k_tt,
  Int.reduceNeg, Int.reducePow, Int.reduceLT, Int.reduceLE, Int.reduceAdd, Int.reduceSub, Int.reduceMul, Int.reduceToNat, Nat.reduceAdd, Nat.reduceLeDiff, Nat.reduceEqDiff, Int.reduceEq, reduceCtorEq, ws_grpL, empty_ownL, wo_TLst, wg_P, wg_end, wg_then, theng_nx, wg_yield, wm_callG, wo_runG, List.nil_append, hso, hso2, hlst, htt, hp62, rng_map, Int.toNat_natCast, List.length_map, List.length_range]
    refine ⟨⟨by omega, rfl⟩, ?_⟩
    refine lc_mapA (fun i : Nat => PyData.int i) (fun t => .int (cntI t T)) _ (fun t _ => ?_) ?_
    · simp only [backE, wipeE, wo_some, wo_none, wm_c, wm_var, wm_frz, wm_bin, wm_un, wm_tst, wm_tru, wm_truB, wm_chain, wm_and, wm_or, wm_not, wm_andV, wm_orV, wm_notV, wm_ifE, wm_nil, wm_cons, wm_app, wm_noP, wm_part, wm_sl, wm_pk, wm_io, wm_ix, wm_inB, wm_true, wm_seq, wm_rng1, wm_rng2,
  then_nx, then_ret, then_rof, then_brk, then_cnt, ws_next, ws_brk, ws_cnt, ws_seq, ws_if, ws_ret, ws_rof, ws_drop, ws_set, ws_own, ws_asg, wo_TN, wo_TNil, wo_TCons, wo_TTup, ws_ap, ws_setIx, ws_for, for_nil, turn_nx, turn_cnt, turn_brk, turn_ret, turn_rof, wm_lc, end_ret, end_nx, end_rof, end_io, ownOf_own, valOf_val, frz_val, frz_own, cOwn_own, peek_val, peek_own, by_val, by_own, canSet_none, canSet_val, canSet_own, lstOf_list,
  List.getElem?_cons_zero, List.getElem?_cons_succ, List.set_cons_zero, List.set_cons_succ, List.length_cons, List.length_nil, wo_ite, wo_bind, ↓reduceIte, and_true, true_and, and_self, Bool.false_eq_true, Bool.not_true, Bool.not_false, decide_eq_true_eq, decide_true, decide_false, oneInt_int, twoInts_int,
  add_ii, add_ll, add_tt, add_ss, sub_ii, mul_ii, mulS_ii, mod_ii, fdiv_ii, neg_i, le_ii, gt_ii, ge_ii, eqT_ii, eqT_ss, eqT_bb, eqT_nn, ltT_ii, ltT_ss, wo_eqD, wo_neD, wo_ltD, wo_inD, wo_ninD, is_n, isnt_n, is_bb, isnt_bb, isN, bOf_b, iOf_i, tru_b, tru_n, tru_i, tru_l, tru_t, seq_l, seq_t, tup_l, tup_t, lst_l, lst_t, len_l, len_t, int_i, int_b, abs_i, max_ii, min_ii, ix_li, ix_ti, cut_l, cut_t, flat_i, flat_b, flat_s, ix0, ix1, ix2, mkTup, mkLst,
  add2_ll, ws_par3, three_c, ws_grp, empty_own, lOwnD_own, wm_lcW, wm_getD, wm_ind, ix3, ix4, ix_m2, ix_m1, ix_p2, ix_p1, wm_newD, ws_setK, wm_get, wm_ixK, wm_sortN, ws_ext, dOwn_own, lOwn_own, lsD_list, step_nx, step_cnt, step_brk, step_ret, step_rof, wm_reve, rev_l, rev_t, wm_opBL, repr_l, sort_l, sum_l, wm_enum, enum_l, enum_t, enumL_nil, wm_dic, wm_kvn, wm_kvc, seq_s, mulT_si, len_s, ord_c, str_i, ty_d, k_lb, k_li, k_ls, k_tb, k_ti, k_ts, k_db, k_di, k_ds, k_lt, k_tl,
  isi_1, tyOk_n, tyOk_b, tyOk_i, tyOk_s, tyOk_l, tyOk_t, ty_n, ty_b, ty_i, ty_s, ty_l, ty_t, k_nb, k_bb, k_ib, k_sb, k_ni, k_bi, k_ii, k_si, k_ns, k_bs, k_is, k_ss, k_ll, k_tt,
  Int.reduceNeg, Int.reducePow, Int.reduceLT, Int.reduceLE, Int.reduceAdd, Int.reduceSub, Int.reduceMul, Int.reduceToNat, Nat.reduceAdd, Nat.reduceLeDiff, Nat.reduceEqDiff, Int.reduceEq, reduceCtorEq, ws_grpL, empty_ownL, wo_TLst, wg_P, wg_end, wg_then, theng_nx, wg_yield, wm_callG, wo_runG, List.nil_append, List.length_map]
      refine ⟨⟨by omega, rfl⟩, ?_⟩
      refine lc_filterA PyData.int PyData.int (fun x => decide (x = t)) _ (fun x _ => ?_) ?_
      · simp only [backE, wipeE, wo_some, wo_none, wm_c, wm_var, wm_frz, wm_bin, wm_un, wm_tst, wm_tru, wm_truB, wm_chain, wm_and, wm_or, wm_not, wm_andV, wm_orV, wm_notV, wm_ifE, wm_nil, wm_cons, wm_app, wm_noP, wm_part, wm_sl, wm_pk, wm_io, wm_ix, wm_inB, wm_true, wm_seq, wm_rng1, wm_rng2,
  then_nx, then_ret, then_rof, then_brk, then_cnt, ws_next, ws_brk, ws_cnt, ws_seq, ws_if, ws_ret, ws_rof, ws_drop, ws_set, ws_own, ws_asg, wo_TN, wo_TNil, wo_TCons, wo_TTup, ws_ap, ws_setIx, ws_for, for_nil, turn_nx, turn_cnt, turn_brk, turn_ret, turn_rof, wm_lc, end_ret, end_nx, end_rof, end_io, ownOf_own, valOf_val, frz_val, frz_own, cOwn_own, peek_val, peek_own, by_val, by_own, canSet_none, canSet_val, canSet_own, lstOf_list,
  List.getElem?_cons_zero, List.getElem?_cons_succ, List.set_cons_zero, List.set_cons_succ, List.length_cons, List.length_nil, wo_ite, wo_bind, ↓reduceIte, and_true, true_and, and_self, Bool.false_eq_true, Bool.not_true, Bool.not_false, decide_eq_true_eq, decide_true, decide_false, oneInt_int, twoInts_int,
  add_ii, add_ll, add_tt, add_ss, sub_ii, mul_ii, mulS_ii, mod_ii, fdiv_ii, neg_i, le_ii, gt_ii, ge_ii, eqT_ii, eqT_ss, eqT_bb, eqT_nn, ltT_ii, ltT_ss, wo_eqD, wo_neD, wo_ltD, wo_inD, wo_ninD, is_n, isnt_n, is_bb, isnt_bb, isN, bOf_b, iOf_i, tru_b, tru_n, tru_i, tru_l, tru_t, seq_l, seq_t, tup_l, tup_t, lst_l, lst_t, len_l, len_t, int_i, int_b, abs_i, max_ii, min_ii, ix_li, ix_ti, cut_l, cut_t, flat_i, flat_b, flat_s, ix0, ix1, ix2, mkTup, mkLst,
  add2_ll, ws_par3, three_c, ws_grp, empty_own, lOwnD_own, wm_lcW, wm_getD, wm_ind, ix3, ix4, ix_m2, ix_m1, ix_p2, ix_p1, wm_newD, ws_setK, wm_get, wm_ixK, wm_sortN, ws_ext, dOwn_own, lOwn_own, lsD_list, step_nx, step_cnt, step_brk, step_ret, step_rof, wm_reve, rev_l, rev_t, wm_opBL, repr_l, sort_l, sum_l, wm_enum, enum_l, enum_t, enumL_nil, wm_dic, wm_kvn, wm_kvc, seq_s, mulT_si, len_s, ord_c, str_i, ty_d, k_lb, k_li, k_ls, k_tb, k_ti, k_ts, k_db, k_di, k_ds, k_lt, k_tl,
  isi_1, tyOk_n, tyOk_b, tyOk_i, tyOk_s, tyOk_l, tyOk_t, ty_n, ty_b, ty_i, ty_s, ty_l, ty_t, k_nb, k_bb, k_ib, k_sb, k_ni, k_bi, k_ii, k_si, k_ns, k_bs, k_is, k_ss, k_ll, k_tt,
  Int.reduceNeg, Int.reducePow, Int.reduceLT, Int.reduceLE, Int.reduceAdd, Int.reduceSub, Int.reduceMul, Int.reduceToNat, Nat.reduceAdd, Nat.reduceLeDiff, Nat.reduceEqDiff, Int.reduceEq, reduceCtorEq, ws_grpL, empty_ownL, wo_TLst, wg_P, wg_end, wg_then, theng_nx, wg_yield, wm_callG, wo_runG, List.nil_append]
        exact ⟨fun _ => trivial, fun _ => trivial⟩
      · simp only [backE, wipeE, wo_some, wo_none, wm_c, wm_var, wm_frz, wm_bin, wm_un, wm_tst, wm_tru, wm_truB, wm_chain, wm_and, wm_or, wm_not, wm_andV, wm_orV, wm_notV, wm_ifE, wm_nil, wm_cons, wm_app, wm_noP, wm_part, wm_sl, wm_pk, wm_io, wm_ix, wm_inB, wm_true, wm_seq, wm_rng1, wm_rng2,
  then_nx, then_ret, then_rof, then_brk, then_cnt, ws_next, ws_brk, ws_cnt, ws_seq, ws_if, ws_ret, ws_rof, ws_drop, ws_set, ws_own, ws_asg, wo_TN, wo_TNil, wo_TCons, wo_TTup, ws_ap, ws_setIx, ws_for, for_nil, turn_nx, turn_cnt, turn_brk, turn_ret, turn_rof, wm_lc, end_ret, end_nx, end_rof, end_io, ownOf_own, valOf_val, frz_val, frz_own, cOwn_own, peek_val, peek_own, by_val, by_own, canSet_none, canSet_val, canSet_own, lstOf_list,
  List.getElem?_cons_zero, List.getElem?_cons_succ, List.set_cons_zero, List.set_cons_succ, List.length_cons, List.length_nil, wo_ite, wo_bind, ↓reduceIte, and_true, true_and, and_self, Bool.false_eq_true, Bool.not_true, Bool.not_false, decide_eq_true_eq, decide_true, decide_false, oneInt_int, twoInts_int,
  add_ii, add_ll, add_tt, add_ss, sub_ii, mul_ii, mulS_ii, mod_ii, fdiv_ii, neg_i, le_ii, gt_ii, ge_ii, eqT_ii, eqT_ss, eqT_bb, eqT_nn, ltT_ii, ltT_ss, wo_eqD, wo_neD, wo_ltD, wo_inD, wo_ninD, is_n, isnt_n, is_bb, isnt_bb, isN, bOf_b, iOf_i, tru_b, tru_n, tru_i, tru_l, tru_t, seq_l, seq_t, tup_l, tup_t, lst_l, lst_t, len_l, len_t, int_i, int_b, abs_i, max_ii, min_ii, ix_li, ix_ti, cut_l, cut_t, flat_i, flat_b, flat_s, ix0, ix1, ix2, mkTup, mkLst,
  add2_ll, ws_par3, three_c, ws_grp, empty_own, lOwnD_own, wm_lcW, wm_getD, wm_ind, ix3, ix4, ix_m2, ix_m1, ix_p2, ix_p1, wm_newD, ws_setK, wm_get, wm_ixK, wm_sortN, ws_ext, dOwn_own, lOwn_own, lsD_list, step_nx, step_cnt, step_brk, step_ret, step_rof, wm_reve, rev_l, rev_t, wm_opBL, repr_l, sort_l, sum_l, wm_enum, enum_l, enum_t, enumL_nil, wm_dic, wm_kvn, wm_kvc, seq_s, mulT_si, len_s, ord_c, str_i, ty_d, k_lb, k_li, k_ls, k_tb, k_ti, k_ts, k_db, k_di, k_ds, k_lt, k_tl,
  isi_1, tyOk_n, tyOk_b, tyOk_i, tyOk_s, tyOk_l, tyOk_t, ty_n, ty_b, ty_i, ty_s, ty_l, ty_t, k_nb, k_bb, k_ib, k_sb, k_ni, k_bi, k_ii, k_si, k_ns, k_bs, k_is, k_ss, k_ll, k_tt,
  Int.reduceNeg, Int.reducePow, Int.reduceLT, Int.reduceLE, Int.reduceAdd, Int.reduceSub, Int.reduceMul, Int.reduceToNat, Nat.reduceAdd, Nat.reduceLeDiff, Nat.reduceEqDiff, Int.reduceEq, reduceCtorEq, ws_grpL, empty_ownL, wo_TLst, wg_P, wg_end, wg_then, theng_nx, wg_yield, wm_callG, wo_runG, List.nil_append, backE, List.length_map]
        rfl
    obtain ⟨mx, hx1, hx2⟩ := max1_rg hp1 fun t => cntI t T
    obtain ⟨tm, htm, hn1⟩ := min1_rg hp1 fun t => cntI t T
    have hsum : sumR p (fun t => cntI t T) = 16 := by rw [cnt_sum hTi, hTl]; rfl
    have hspan : ¬ 1 < mx - cntI tm T := fun z => by
      have := (hx2 (mx - 1)).mp (by omega)
      obtain ⟨t, ht, h⟩ := List.any_eq_true.mp this
      have h := of_decide_eq_true h
      have h1 := hTc t (List.mem_range.mp ht)
      have h2 := hTc tm htm
      have h3 := hRs.2 tm
      have h4 : inRI R t ≤ 1 := by unfold inRI; split <;> omega
      omega
    simp only [backE, wipeE, wo_some, wo_none, wm_c, wm_var, wm_frz, wm_bin, wm_un, wm_tst, wm_tru, wm_truB, wm_chain, wm_and, wm_or, wm_not, wm_andV, wm_orV, wm_notV, wm_ifE, wm_nil, wm_cons, wm_app, wm_noP, wm_part, wm_sl, wm_pk, wm_io, wm_ix, wm_inB, wm_true, wm_seq, wm_rng1, wm_rng2,
  then_nx, then_ret, then_rof, then_brk, then_cnt, ws_next, ws_brk, ws_cnt, ws_seq, ws_if, ws_ret, ws_rof, ws_drop, ws_set, ws_own, ws_asg, wo_TN, wo_TNil, wo_TCons, wo_TTup, ws_ap, ws_setIx, ws_for, for_nil, turn_nx, turn_cnt, turn_brk, turn_ret, turn_rof, wm_lc, end_ret, end_nx, end_rof, end_io, ownOf_own, valOf_val, frz_val, frz_own, cOwn_own, peek_val, peek_own, by_val, by_own, canSet_none, canSet_val, canSet_own, lstOf_list,
  List.getElem?_cons_zero, List.getElem?_cons_succ, List.set_cons_zero, List.set_cons_succ, List.length_cons, List.length_nil, wo_ite, wo_bind, ↓reduceIte, and_true, true_and, and_self, Bool.false_eq_true, Bool.not_true, Bool.not_false, decide_eq_true_eq, decide_true, decide_false, oneInt_int, twoInts_int,
  add_ii, add_ll, add_tt, add_ss, sub_ii, mul_ii, mulS_ii, mod_ii, fdiv_ii, neg_i, le_ii, gt_ii, ge_ii, eqT_ii, eqT_ss, eqT_bb, eqT_nn, ltT_ii, ltT_ss, wo_eqD, wo_neD, wo_ltD, wo_inD, wo_ninD, is_n, isnt_n, is_bb, isnt_bb, isN, bOf_b, iOf_i, tru_b, tru_n, tru_i, tru_l, tru_t, seq_l, seq_t, tup_l, tup_t, lst_l, lst_t, len_l, len_t, int_i, int_b, abs_i, max_ii, min_ii, ix_li, ix_ti, cut_l, cut_t, flat_i, flat_b, flat_s, ix0, ix1, ix2, mkTup, mkLst,
  add2_ll, ws_par3, three_c, ws_grp, empty_own, lOwnD_own, wm_lcW, wm_getD, wm_ind, ix3, ix4, ix_m2, ix_m1, ix_p2, ix_p1, wm_newD, ws_setK, wm_get, wm_ixK, wm_sortN, ws_ext, dOwn_own, lOwn_own, lsD_list, step_nx, step_cnt, step_brk, step_ret, step_rof, wm_reve, rev_l, rev_t, wm_opBL, repr_l, sort_l, sum_l, wm_enum, enum_l, enum_t, enumL_nil, wm_dic, wm_kvn, wm_kvc, seq_s, mulT_si, len_s, ord_c, str_i, ty_d, k_lb, k_li, k_ls, k_tb, k_ti, k_ts, k_db, k_di, k_ds, k_lt, k_tl,
  isi_1, tyOk_n, tyOk_b, tyOk_i, tyOk_s, tyOk_l, tyOk_t, ty_n, ty_b, ty_i, ty_s, ty_l, ty_t, k_nb, k_bb, k_ib, k_sb, k_ni, k_bi, k_ii, k_si, k_ns, k_bs, k_is, k_ss, k_ll, k_tt,
  Int.reduceNeg, Int.reducePow, Int.reduceLT, Int.reduceLE, Int.reduceAdd, Int.reduceSub, Int.reduceMul, Int.reduceToNat, Nat.reduceAdd, Nat.reduceLeDiff, Nat.reduceEqDiff, Int.reduceEq, reduceCtorEq, ws_grpL, empty_ownL, wo_TLst, wg_P, wg_end, wg_then, theng_nx, wg_yield, wm_callG, wo_runG, List.nil_append, backE, hx1, hn1, nums_rg, sum_rg, hsum, hspan, hee, hto, sp_even hm]
    by_cases c1 : (m : Int) = (p : Int)
    · by_cases c2 : ow = evL m
      · have hmp : m = p := by omega
        subst hmp
        have hse := gk_stay hp (ow := evL m) (ev_even hm) 16 (Nat.le_refl _)
        rw [List.take_of_length_le (by rw [(ev_even hm).1]; omega), ← c2, hT] at hse
        simp [c1, c2, hse]
      · simp [c1, c2]
    · simp [c1]
theorem law_true : ∀ ns : List Int, ns.length ≤ 63 → f_law [.list (ns.map PyData.int)] = some (.bool true) := by
  intro ns hns
  rw [← wo_eq]
  unfold f_law
  rw [wo_runV]
  show Ws g_law [some (.val (.list (ns.map PyData.int))), none, none, none, none, none, none, none, none, none, none, none, none, none] _
  unfold g_law
  simp only [backE, wipeE, wo_some, wo_none, wm_c, wm_var, wm_frz, wm_bin, wm_un, wm_tst, wm_tru, wm_truB, wm_chain, wm_and, wm_or, wm_not, wm_andV, wm_orV, wm_notV, wm_ifE, wm_nil, wm_cons, wm_app, wm_noP, wm_part, wm_sl, wm_pk, wm_io, wm_ix, wm_inB, wm_true, wm_seq, wm_rng1, wm_rng2,
  then_nx, then_ret, then_rof, then_brk, then_cnt, ws_next, ws_brk, ws_cnt, ws_seq, ws_if, ws_ret, ws_rof, ws_drop, ws_set, ws_own, ws_asg, wo_TN, wo_TNil, wo_TCons, wo_TTup, ws_ap, ws_setIx, ws_for, for_nil, turn_nx, turn_cnt, turn_brk, turn_ret, turn_rof, wm_lc, end_ret, end_nx, end_rof, end_io, ownOf_own, valOf_val, frz_val, frz_own, cOwn_own, peek_val, peek_own, by_val, by_own, canSet_none, canSet_val, canSet_own, lstOf_list,
  List.getElem?_cons_zero, List.getElem?_cons_succ, List.set_cons_zero, List.set_cons_succ, List.length_cons, List.length_nil, wo_ite, wo_bind, ↓reduceIte, and_true, true_and, and_self, Bool.false_eq_true, Bool.not_true, Bool.not_false, decide_eq_true_eq, decide_true, decide_false, oneInt_int, twoInts_int,
  add_ii, add_ll, add_tt, add_ss, sub_ii, mul_ii, mulS_ii, mod_ii, fdiv_ii, neg_i, le_ii, gt_ii, ge_ii, eqT_ii, eqT_ss, eqT_bb, eqT_nn, ltT_ii, ltT_ss, wo_eqD, wo_neD, wo_ltD, wo_inD, wo_ninD, is_n, isnt_n, is_bb, isnt_bb, isN, bOf_b, iOf_i, tru_b, tru_n, tru_i, tru_l, tru_t, seq_l, seq_t, tup_l, tup_t, lst_l, lst_t, len_l, len_t, int_i, int_b, abs_i, max_ii, min_ii, ix_li, ix_ti, cut_l, cut_t, flat_i, flat_b, flat_s, ix0, ix1, ix2, mkTup, mkLst,
  add2_ll, ws_par3, three_c, ws_grp, empty_own, lOwnD_own, wm_lcW, wm_getD, wm_ind, ix3, ix4, ix_m2, ix_m1, ix_p2, ix_p1, wm_newD, ws_setK, wm_get, wm_ixK, wm_sortN, ws_ext, dOwn_own, lOwn_own, lsD_list, step_nx, step_cnt, step_brk, step_ret, step_rof, wm_reve, rev_l, rev_t, wm_opBL, repr_l, sort_l, sum_l, wm_enum, enum_l, enum_t, enumL_nil, wm_dic, wm_kvn, wm_kvc, seq_s, mulT_si, len_s, ord_c, str_i, ty_d, k_lb, k_li, k_ls, k_tb, k_ti, k_ts, k_db, k_di, k_ds, k_lt, k_tl,
  isi_1, tyOk_n, tyOk_b, tyOk_i, tyOk_s, tyOk_l, tyOk_t, ty_n, ty_b, ty_i, ty_s, ty_l, ty_t, k_nb, k_bb, k_ib, k_sb, k_ni, k_bi, k_ii, k_si, k_ns, k_bs, k_is, k_ss, k_ll, k_tt,
  Int.reduceNeg, Int.reducePow, Int.reduceLT, Int.reduceLE, Int.reduceAdd, Int.reduceSub, Int.reduceMul, Int.reduceToNat, Nat.reduceAdd, Nat.reduceLeDiff, Nat.reduceEqDiff, Int.reduceEq, reduceCtorEq, ws_grpL, empty_ownL, wo_TLst, wg_P, wg_end, wg_then, theng_nx, wg_yield, wm_callG, wo_runG, List.nil_append]
  refine wo_cell (by omega) fun c => ?_
  refine wo_start fun n0 => ?_
  refine wo_digit ⟨by decide, by decide⟩ fun d1 n1 h10 h11 => ?_
  obtain ⟨m, hm, em⟩ := four_of h10 h11
  simp only [backE, wipeE, wo_some, wo_none, wm_c, wm_var, wm_frz, wm_bin, wm_un, wm_tst, wm_tru, wm_truB, wm_chain, wm_and, wm_or, wm_not, wm_andV, wm_orV, wm_notV, wm_ifE, wm_nil, wm_cons, wm_app, wm_noP, wm_part, wm_sl, wm_pk, wm_io, wm_ix, wm_inB, wm_true, wm_seq, wm_rng1, wm_rng2,
  then_nx, then_ret, then_rof, then_brk, then_cnt, ws_next, ws_brk, ws_cnt, ws_seq, ws_if, ws_ret, ws_rof, ws_drop, ws_set, ws_own, ws_asg, wo_TN, wo_TNil, wo_TCons, wo_TTup, ws_ap, ws_setIx, ws_for, for_nil, turn_nx, turn_cnt, turn_brk, turn_ret, turn_rof, wm_lc, end_ret, end_nx, end_rof, end_io, ownOf_own, valOf_val, frz_val, frz_own, cOwn_own, peek_val, peek_own, by_val, by_own, canSet_none, canSet_val, canSet_own, lstOf_list,
  List.getElem?_cons_zero, List.getElem?_cons_succ, List.set_cons_zero, List.set_cons_succ, List.length_cons, List.length_nil, wo_ite, wo_bind, ↓reduceIte, and_true, true_and, and_self, Bool.false_eq_true, Bool.not_true, Bool.not_false, decide_eq_true_eq, decide_true, decide_false, oneInt_int, twoInts_int,
  add_ii, add_ll, add_tt, add_ss, sub_ii, mul_ii, mulS_ii, mod_ii, fdiv_ii, neg_i, le_ii, gt_ii, ge_ii, eqT_ii, eqT_ss, eqT_bb, eqT_nn, ltT_ii, ltT_ss, wo_eqD, wo_neD, wo_ltD, wo_inD, wo_ninD, is_n, isnt_n, is_bb, isnt_bb, isN, bOf_b, iOf_i, tru_b, tru_n, tru_i, tru_l, tru_t, seq_l, seq_t, tup_l, tup_t, lst_l, lst_t, len_l, len_t, int_i, int_b, abs_i, max_ii, min_ii, ix_li, ix_ti, cut_l, cut_t, flat_i, flat_b, flat_s, ix0, ix1, ix2, mkTup, mkLst,
  add2_ll, ws_par3, three_c, ws_grp, empty_own, lOwnD_own, wm_lcW, wm_getD, wm_ind, ix3, ix4, ix_m2, ix_m1, ix_p2, ix_p1, wm_newD, ws_setK, wm_get, wm_ixK, wm_sortN, ws_ext, dOwn_own, lOwn_own, lsD_list, step_nx, step_cnt, step_brk, step_ret, step_rof, wm_reve, rev_l, rev_t, wm_opBL, repr_l, sort_l, sum_l, wm_enum, enum_l, enum_t, enumL_nil, wm_dic, wm_kvn, wm_kvc, seq_s, mulT_si, len_s, ord_c, str_i, ty_d, k_lb, k_li, k_ls, k_tb, k_ti, k_ts, k_db, k_di, k_ds, k_lt, k_tl,
  isi_1, tyOk_n, tyOk_b, tyOk_i, tyOk_s, tyOk_l, tyOk_t, ty_n, ty_b, ty_i, ty_s, ty_l, ty_t, k_nb, k_bb, k_ib, k_sb, k_ni, k_bi, k_ii, k_si, k_ns, k_bs, k_is, k_ss, k_ll, k_tt,
  Int.reduceNeg, Int.reducePow, Int.reduceLT, Int.reduceLE, Int.reduceAdd, Int.reduceSub, Int.reduceMul, Int.reduceToNat, Nat.reduceAdd, Nat.reduceLeDiff, Nat.reduceEqDiff, Int.reduceEq, reduceCtorEq, ws_grpL, empty_ownL, wo_TLst, wg_P, wg_end, wg_then, theng_nx, wg_yield, wm_callG, wo_runG, List.nil_append, em]
  refine wo_digit ⟨by decide, by decide⟩ fun d2 n2 h20 h21 => ?_
  obtain ⟨p, hp, ep⟩ := four_of h20 h21
  obtain ⟨_, hm1, hm4⟩ := four_low hm
  obtain ⟨_, hp1, hp4⟩ := four_low hp
  have e16 : small62 16 = true := by decide
  have er : rngL 0 16 = (List.range 16).map fun i : Nat => PyData.int i := rng_map 16
  have hp62 : small62 ((p : Nat) : Int) = true := small_nat (by omega)
  simp only [backE, wipeE, wo_some, wo_none, wm_c, wm_var, wm_frz, wm_bin, wm_un, wm_tst, wm_tru, wm_truB, wm_chain, wm_and, wm_or, wm_not, wm_andV, wm_orV, wm_notV, wm_ifE, wm_nil, wm_cons, wm_app, wm_noP, wm_part, wm_sl, wm_pk, wm_io, wm_ix, wm_inB, wm_true, wm_seq, wm_rng1, wm_rng2,
  then_nx, then_ret, then_rof, then_brk, then_cnt, ws_next, ws_brk, ws_cnt, ws_seq, ws_if, ws_ret, ws_rof, ws_drop, ws_set, ws_own, ws_asg, wo_TN, wo_TNil, wo_TCons, wo_TTup, ws_ap, ws_setIx, ws_for, for_nil, turn_nx, turn_cnt, turn_brk, turn_ret, turn_rof, wm_lc, end_ret, end_nx, end_rof, end_io, ownOf_own, valOf_val, frz_val, frz_own, cOwn_own, peek_val, peek_own, by_val, by_own, canSet_none, canSet_val, canSet_own, lstOf_list,
  List.getElem?_cons_zero, List.getElem?_cons_succ, List.set_cons_zero, List.set_cons_succ, List.length_cons, List.length_nil, wo_ite, wo_bind, ↓reduceIte, and_true, true_and, and_self, Bool.false_eq_true, Bool.not_true, Bool.not_false, decide_eq_true_eq, decide_true, decide_false, oneInt_int, twoInts_int,
  add_ii, add_ll, add_tt, add_ss, sub_ii, mul_ii, mulS_ii, mod_ii, fdiv_ii, neg_i, le_ii, gt_ii, ge_ii, eqT_ii, eqT_ss, eqT_bb, eqT_nn, ltT_ii, ltT_ss, wo_eqD, wo_neD, wo_ltD, wo_inD, wo_ninD, is_n, isnt_n, is_bb, isnt_bb, isN, bOf_b, iOf_i, tru_b, tru_n, tru_i, tru_l, tru_t, seq_l, seq_t, tup_l, tup_t, lst_l, lst_t, len_l, len_t, int_i, int_b, abs_i, max_ii, min_ii, ix_li, ix_ti, cut_l, cut_t, flat_i, flat_b, flat_s, ix0, ix1, ix2, mkTup, mkLst,
  add2_ll, ws_par3, three_c, ws_grp, empty_own, lOwnD_own, wm_lcW, wm_getD, wm_ind, ix3, ix4, ix_m2, ix_m1, ix_p2, ix_p1, wm_newD, ws_setK, wm_get, wm_ixK, wm_sortN, ws_ext, dOwn_own, lOwn_own, lsD_list, step_nx, step_cnt, step_brk, step_ret, step_rof, wm_reve, rev_l, rev_t, wm_opBL, repr_l, sort_l, sum_l, wm_enum, enum_l, enum_t, enumL_nil, wm_dic, wm_kvn, wm_kvc, seq_s, mulT_si, len_s, ord_c, str_i, ty_d, k_lb, k_li, k_ls, k_tb, k_ti, k_ts, k_db, k_di, k_ds, k_lt, k_tl,
  isi_1, tyOk_n, tyOk_b, tyOk_i, tyOk_s, tyOk_l, tyOk_t, ty_n, ty_b, ty_i, ty_s, ty_l, ty_t, k_nb, k_bb, k_ib, k_sb, k_ni, k_bi, k_ii, k_si, k_ns, k_bs, k_is, k_ss, k_ll, k_tt,
  Int.reduceNeg, Int.reducePow, Int.reduceLT, Int.reduceLE, Int.reduceAdd, Int.reduceSub, Int.reduceMul, Int.reduceToNat, Nat.reduceAdd, Nat.reduceLeDiff, Nat.reduceEqDiff, Int.reduceEq, reduceCtorEq, ws_grpL, empty_ownL, wo_TLst, wg_P, wg_end, wg_then, theng_nx, wg_yield, wm_callG, wo_runG, List.nil_append, ep, e16]
  refine ⟨⟨by rw [er, List.length_map, List.length_range]; decide, rfl⟩, ?_⟩
  rw [er]
  refine lc_inv (fun q a ρ => ∃ n' l, ρ = [some (.val (.list (ns.map PyData.int))), some (.own false (.list [.int n'])), some (.val (.int m)), some (.val (.int p)), none, none, none, none, none, none, none, none, none, none] ∧ a = l.map PyData.int ∧ l.length = q.length) ((List.range 16).map fun i : Nat => PyData.int i) [] [] _ ⟨n2, [], rfl, rfl, rfl⟩ ?_ ?_
  · rintro q d r a ρ e' ⟨n', l, rfl, rfl, hl⟩
    simp only [backE, wipeE, wo_some, wo_none, wm_c, wm_var, wm_frz, wm_bin, wm_un, wm_tst, wm_tru, wm_truB, wm_chain, wm_and, wm_or, wm_not, wm_andV, wm_orV, wm_notV, wm_ifE, wm_nil, wm_cons, wm_app, wm_noP, wm_part, wm_sl, wm_pk, wm_io, wm_ix, wm_inB, wm_true, wm_seq, wm_rng1, wm_rng2,
  then_nx, then_ret, then_rof, then_brk, then_cnt, ws_next, ws_brk, ws_cnt, ws_seq, ws_if, ws_ret, ws_rof, ws_drop, ws_set, ws_own, ws_asg, wo_TN, wo_TNil, wo_TCons, wo_TTup, ws_ap, ws_setIx, ws_for, for_nil, turn_nx, turn_cnt, turn_brk, turn_ret, turn_rof, wm_lc, end_ret, end_nx, end_rof, end_io, ownOf_own, valOf_val, frz_val, frz_own, cOwn_own, peek_val, peek_own, by_val, by_own, canSet_none, canSet_val, canSet_own, lstOf_list,
  List.getElem?_cons_zero, List.getElem?_cons_succ, List.set_cons_zero, List.set_cons_succ, List.length_cons, List.length_nil, wo_ite, wo_bind, ↓reduceIte, and_true, true_and, and_self, Bool.false_eq_true, Bool.not_true, Bool.not_false, decide_eq_true_eq, decide_true, decide_false, oneInt_int, twoInts_int,
  add_ii, add_ll, add_tt, add_ss, sub_ii, mul_ii, mulS_ii, mod_ii, fdiv_ii, neg_i, le_ii, gt_ii, ge_ii, eqT_ii, eqT_ss, eqT_bb, eqT_nn, ltT_ii, ltT_ss, wo_eqD, wo_neD, wo_ltD, wo_inD, wo_ninD, is_n, isnt_n, is_bb, isnt_bb, isN, bOf_b, iOf_i, tru_b, tru_n, tru_i, tru_l, tru_t, seq_l, seq_t, tup_l, tup_t, lst_l, lst_t, len_l, len_t, int_i, int_b, abs_i, max_ii, min_ii, ix_li, ix_ti, cut_l, cut_t, flat_i, flat_b, flat_s, ix0, ix1, ix2, mkTup, mkLst,
  add2_ll, ws_par3, three_c, ws_grp, empty_own, lOwnD_own, wm_lcW, wm_getD, wm_ind, ix3, ix4, ix_m2, ix_m1, ix_p2, ix_p1, wm_newD, ws_setK, wm_get, wm_ixK, wm_sortN, ws_ext, dOwn_own, lOwn_own, lsD_list, step_nx, step_cnt, step_brk, step_ret, step_rof, wm_reve, rev_l, rev_t, wm_opBL, repr_l, sort_l, sum_l, wm_enum, enum_l, enum_t, enumL_nil, wm_dic, wm_kvn, wm_kvc, seq_s, mulT_si, len_s, ord_c, str_i, ty_d, k_lb, k_li, k_ls, k_tb, k_ti, k_ts, k_db, k_di, k_ds, k_lt, k_tl,
  isi_1, tyOk_n, tyOk_b, tyOk_i, tyOk_s, tyOk_l, tyOk_t, ty_n, ty_b, ty_i, ty_s, ty_l, ty_t, k_nb, k_bb, k_ib, k_sb, k_ni, k_bi, k_ii, k_si, k_ns, k_bs, k_is, k_ss, k_ll, k_tt,
  Int.reduceNeg, Int.reducePow, Int.reduceLT, Int.reduceLE, Int.reduceAdd, Int.reduceSub, Int.reduceMul, Int.reduceToNat, Nat.reduceAdd, Nat.reduceLeDiff, Nat.reduceEqDiff, Int.reduceEq, reduceCtorEq, ws_grpL, empty_ownL, wo_TLst, wg_P, wg_end, wg_then, theng_nx, wg_yield, wm_callG, wo_runG, List.nil_append]
    refine wo_digit ⟨by omega, by omega⟩ fun d3 n3 h30 h31 => ?_
    exact ⟨n3, l ++ [d3], rfl, by rw [List.map_append]; rfl, by simp [hl]⟩
  rintro a ρ' ⟨n3, l, rfl, rfl, hl⟩
  have ho1 : l.length = 16 := by simpa using hl
  simp only [backE, wipeE, wo_some, wo_none, wm_c, wm_var, wm_frz, wm_bin, wm_un, wm_tst, wm_tru, wm_truB, wm_chain, wm_and, wm_or, wm_not, wm_andV, wm_orV, wm_notV, wm_ifE, wm_nil, wm_cons, wm_app, wm_noP, wm_part, wm_sl, wm_pk, wm_io, wm_ix, wm_inB, wm_true, wm_seq, wm_rng1, wm_rng2,
  then_nx, then_ret, then_rof, then_brk, then_cnt, ws_next, ws_brk, ws_cnt, ws_seq, ws_if, ws_ret, ws_rof, ws_drop, ws_set, ws_own, ws_asg, wo_TN, wo_TNil, wo_TCons, wo_TTup, ws_ap, ws_setIx, ws_for, for_nil, turn_nx, turn_cnt, turn_brk, turn_ret, turn_rof, wm_lc, end_ret, end_nx, end_rof, end_io, ownOf_own, valOf_val, frz_val, frz_own, cOwn_own, peek_val, peek_own, by_val, by_own, canSet_none, canSet_val, canSet_own, lstOf_list,
  List.getElem?_cons_zero, List.getElem?_cons_succ, List.set_cons_zero, List.set_cons_succ, List.length_cons, List.length_nil, wo_ite, wo_bind, ↓reduceIte, and_true, true_and, and_self, Bool.false_eq_true, Bool.not_true, Bool.not_false, decide_eq_true_eq, decide_true, decide_false, oneInt_int, twoInts_int,
  add_ii, add_ll, add_tt, add_ss, sub_ii, mul_ii, mulS_ii, mod_ii, fdiv_ii, neg_i, le_ii, gt_ii, ge_ii, eqT_ii, eqT_ss, eqT_bb, eqT_nn, ltT_ii, ltT_ss, wo_eqD, wo_neD, wo_ltD, wo_inD, wo_ninD, is_n, isnt_n, is_bb, isnt_bb, isN, bOf_b, iOf_i, tru_b, tru_n, tru_i, tru_l, tru_t, seq_l, seq_t, tup_l, tup_t, lst_l, lst_t, len_l, len_t, int_i, int_b, abs_i, max_ii, min_ii, ix_li, ix_ti, cut_l, cut_t, flat_i, flat_b, flat_s, ix0, ix1, ix2, mkTup, mkLst,
  add2_ll, ws_par3, three_c, ws_grp, empty_own, lOwnD_own, wm_lcW, wm_getD, wm_ind, ix3, ix4, ix_m2, ix_m1, ix_p2, ix_p1, wm_newD, ws_setK, wm_get, wm_ixK, wm_sortN, ws_ext, dOwn_own, lOwn_own, lsD_list, step_nx, step_cnt, step_brk, step_ret, step_rof, wm_reve, rev_l, rev_t, wm_opBL, repr_l, sort_l, sum_l, wm_enum, enum_l, enum_t, enumL_nil, wm_dic, wm_kvn, wm_kvc, seq_s, mulT_si, len_s, ord_c, str_i, ty_d, k_lb, k_li, k_ls, k_tb, k_ti, k_ts, k_db, k_di, k_ds, k_lt, k_tl,
  isi_1, tyOk_n, tyOk_b, tyOk_i, tyOk_s, tyOk_l, tyOk_t, ty_n, ty_b, ty_i, ty_s, ty_l, ty_t, k_nb, k_bb, k_ib, k_sb, k_ni, k_bi, k_ii, k_si, k_ns, k_bs, k_is, k_ss, k_ll, k_tt,
  Int.reduceNeg, Int.reducePow, Int.reduceLT, Int.reduceLE, Int.reduceAdd, Int.reduceSub, Int.reduceMul, Int.reduceToNat, Nat.reduceAdd, Nat.reduceLeDiff, Nat.reduceEqDiff, Int.reduceEq, reduceCtorEq, ws_grpL, empty_ownL, wo_TLst, wg_P, wg_end, wg_then, theng_nx, wg_yield, wm_callG, wo_runG, List.nil_append, backE]
  refine wo_digit ⟨by decide, by decide⟩ fun d3 n4 h30 h31 => ?_
  simp only [backE, wipeE, wo_some, wo_none, wm_c, wm_var, wm_frz, wm_bin, wm_un, wm_tst, wm_tru, wm_truB, wm_chain, wm_and, wm_or, wm_not, wm_andV, wm_orV, wm_notV, wm_ifE, wm_nil, wm_cons, wm_app, wm_noP, wm_part, wm_sl, wm_pk, wm_io, wm_ix, wm_inB, wm_true, wm_seq, wm_rng1, wm_rng2,
  then_nx, then_ret, then_rof, then_brk, then_cnt, ws_next, ws_brk, ws_cnt, ws_seq, ws_if, ws_ret, ws_rof, ws_drop, ws_set, ws_own, ws_asg, wo_TN, wo_TNil, wo_TCons, wo_TTup, ws_ap, ws_setIx, ws_for, for_nil, turn_nx, turn_cnt, turn_brk, turn_ret, turn_rof, wm_lc, end_ret, end_nx, end_rof, end_io, ownOf_own, valOf_val, frz_val, frz_own, cOwn_own, peek_val, peek_own, by_val, by_own, canSet_none, canSet_val, canSet_own, lstOf_list,
  List.getElem?_cons_zero, List.getElem?_cons_succ, List.set_cons_zero, List.set_cons_succ, List.length_cons, List.length_nil, wo_ite, wo_bind, ↓reduceIte, and_true, true_and, and_self, Bool.false_eq_true, Bool.not_true, Bool.not_false, decide_eq_true_eq, decide_true, decide_false, oneInt_int, twoInts_int,
  add_ii, add_ll, add_tt, add_ss, sub_ii, mul_ii, mulS_ii, mod_ii, fdiv_ii, neg_i, le_ii, gt_ii, ge_ii, eqT_ii, eqT_ss, eqT_bb, eqT_nn, ltT_ii, ltT_ss, wo_eqD, wo_neD, wo_ltD, wo_inD, wo_ninD, is_n, isnt_n, is_bb, isnt_bb, isN, bOf_b, iOf_i, tru_b, tru_n, tru_i, tru_l, tru_t, seq_l, seq_t, tup_l, tup_t, lst_l, lst_t, len_l, len_t, int_i, int_b, abs_i, max_ii, min_ii, ix_li, ix_ti, cut_l, cut_t, flat_i, flat_b, flat_s, ix0, ix1, ix2, mkTup, mkLst,
  add2_ll, ws_par3, three_c, ws_grp, empty_own, lOwnD_own, wm_lcW, wm_getD, wm_ind, ix3, ix4, ix_m2, ix_m1, ix_p2, ix_p1, wm_newD, ws_setK, wm_get, wm_ixK, wm_sortN, ws_ext, dOwn_own, lOwn_own, lsD_list, step_nx, step_cnt, step_brk, step_ret, step_rof, wm_reve, rev_l, rev_t, wm_opBL, repr_l, sort_l, sum_l, wm_enum, enum_l, enum_t, enumL_nil, wm_dic, wm_kvn, wm_kvc, seq_s, mulT_si, len_s, ord_c, str_i, ty_d, k_lb, k_li, k_ls, k_tb, k_ti, k_ts, k_db, k_di, k_ds, k_lt, k_tl,
  isi_1, tyOk_n, tyOk_b, tyOk_i, tyOk_s, tyOk_l, tyOk_t, ty_n, ty_b, ty_i, ty_s, ty_l, ty_t, k_nb, k_bb, k_ib, k_sb, k_ni, k_bi, k_ii, k_si, k_ns, k_bs, k_is, k_ss, k_ll, k_tt,
  Int.reduceNeg, Int.reducePow, Int.reduceLT, Int.reduceLE, Int.reduceAdd, Int.reduceSub, Int.reduceMul, Int.reduceToNat, Nat.reduceAdd, Nat.reduceLeDiff, Nat.reduceEqDiff, Int.reduceEq, reduceCtorEq, ws_grpL, empty_ownL, wo_TLst, wg_P, wg_end, wg_then, theng_nx, wg_yield, wm_callG, wo_runG, List.nil_append, sp_even hm]
  by_cases hd : d3 = 0
  · rw [if_pos hd]
    exact law_rest hm hp (ow := evL m) (ev_even hm).1
  · rw [if_neg hd]
    exact law_rest hm hp (ow := l) ho1
end Lw
set_option maxHeartbeats 4000000
namespace Lw
open PySem PySem.Spec PyProof.Rows L2 Dn
theorem all_mk {l : PySem.W.OpenLaw} {w : World} {K : PySem.W.Frag} {h : Heap} {mg : Str → Option Value} {fa : Addr} (X : K.In h) (G : h.Ns mainGlobals mg) (hfa : mg "law" = some (.ref fa))
    {f0 : Addr} {oc0 kV0 dc0 pm0 cd0 ct0 : Value} {od0 an0 : Option Addr} {sl0 : Array (Option Value)}
    (a0 : PySem.W.nsIn K mainGlobals "_law_cell" = some (some (.ref f0))) (l0 : K.lookup f0 = some ⟨oc0, od0, .func (PySem.W.fnOf "_law_cell" "_law_cell" (defArgs s__law_cell) (defBody s__law_cell) (defScope s__law_cell) .none kV0 dc0 pm0 an0 cd0 ct0), sl0⟩) (c0 : PySem.W.codeIn K cd0 "_law_cell" = true) (k0 : PySem.W.keepIn K (.ref f0) = true)
    {f1 : Addr} {oc1 kV1 dc1 pm1 cd1 ct1 : Value} {od1 an1 : Option Addr} {sl1 : Array (Option Value)}
    (a1 : PySem.W.nsIn K mainGlobals "_law_digit" = some (some (.ref f1))) (l1 : K.lookup f1 = some ⟨oc1, od1, .func (PySem.W.fnOf "_law_digit" "_law_digit" (defArgs s__law_digit) (defBody s__law_digit) (defScope s__law_digit) .none kV1 dc1 pm1 an1 cd1 ct1), sl1⟩) (c1 : PySem.W.codeIn K cd1 "_law_digit" = true) (k1 : PySem.W.keepIn K (.ref f1) = true)
    {f2 : Addr} {oc2 kV2 dc2 pm2 cd2 ct2 : Value} {od2 an2 : Option Addr} {sl2 : Array (Option Value)}
    (a2 : PySem.W.nsIn K mainGlobals "_law_choose" = some (some (.ref f2))) (l2 : K.lookup f2 = some ⟨oc2, od2, .func (PySem.W.fnOf "_law_choose" "_law_choose" (defArgs s__law_choose) (defBody s__law_choose) (defScope s__law_choose) .none kV2 dc2 pm2 an2 cd2 ct2), sl2⟩) (c2 : PySem.W.codeIn K cd2 "_law_choose" = true) (k2 : PySem.W.keepIn K (.ref f2) = true)
    {f3 : Addr} {oc3 kV3 dc3 pm3 cd3 ct3 : Value} {od3 an3 : Option Addr} {sl3 : Array (Option Value)}
    (a3 : PySem.W.nsIn K mainGlobals "_law_fewest" = some (some (.ref f3))) (l3 : K.lookup f3 = some ⟨oc3, od3, .func (PySem.W.fnOf "_law_fewest" "_law_fewest" (defArgs s__law_fewest) (defBody s__law_fewest) (defScope s__law_fewest) .none kV3 dc3 pm3 an3 cd3 ct3), sl3⟩) (c3 : PySem.W.codeIn K cd3 "_law_fewest" = true) (k3 : PySem.W.keepIn K (.ref f3) = true)
    {f4 : Addr} {oc4 kV4 dc4 pm4 cd4 ct4 : Value} {od4 an4 : Option Addr} {sl4 : Array (Option Value)}
    (a4 : PySem.W.nsIn K mainGlobals "_law_start" = some (some (.ref f4))) (l4 : K.lookup f4 = some ⟨oc4, od4, .func (PySem.W.fnOf "_law_start" "_law_start" (defArgs s__law_start) (defBody s__law_start) (defScope s__law_start) .none kV4 dc4 pm4 an4 cd4 ct4), sl4⟩) (c4 : PySem.W.codeIn K cd4 "_law_start" = true) (k4 : PySem.W.keepIn K (.ref f4) = true)
    {f5 : Addr} {oc5 kV5 dc5 pm5 cd5 ct5 : Value} {od5 an5 : Option Addr} {sl5 : Array (Option Value)}
    (a5 : PySem.W.nsIn K mainGlobals "even_owners" = some (some (.ref f5))) (l5 : K.lookup f5 = some ⟨oc5, od5, .func (PySem.W.fnOf "even_owners" "even_owners" (defArgs s_even_owners) (defBody s_even_owners) (defScope s_even_owners) .none kV5 dc5 pm5 an5 cd5 ct5), sl5⟩) (c5 : PySem.W.codeIn K cd5 "even_owners" = true) (k5 : PySem.W.keepIn K (.ref f5) = true)
    {f6 : Addr} {oc6 kV6 dc6 pm6 cd6 ct6 : Value} {od6 an6 : Option Addr} {sl6 : Array (Option Value)}
    (a6 : PySem.W.nsIn K mainGlobals "can_end" = some (some (.ref f6))) (l6 : K.lookup f6 = some ⟨oc6, od6, .func (PySem.W.fnOf "can_end" "can_end" (defArgs s_can_end) (defBody s_can_end) (defScope s_can_end) .none kV6 dc6 pm6 an6 cd6 ct6), sl6⟩) (c6 : PySem.W.codeIn K cd6 "can_end" = true) (k6 : PySem.W.keepIn K (.ref f6) = true)
    {f7 : Addr} {oc7 kV7 dc7 pm7 cd7 ct7 : Value} {od7 an7 : Option Addr} {sl7 : Array (Option Value)}
    (a7 : PySem.W.nsIn K mainGlobals "owners_for" = some (some (.ref f7))) (l7 : K.lookup f7 = some ⟨oc7, od7, .func (PySem.W.fnOf "owners_for" "owners_for" (defArgs s_owners_for) (defBody s_owners_for) (defScope s_owners_for) .none kV7 dc7 pm7 an7 cd7 ct7), sl7⟩) (c7 : PySem.W.codeIn K cd7 "owners_for" = true) (k7 : PySem.W.keepIn K (.ref f7) = true)
    {f8 : Addr} {oc8 kV8 dc8 pm8 cd8 ct8 : Value} {od8 an8 : Option Addr} {sl8 : Array (Option Value)}
    (a8 : PySem.W.nsIn K mainGlobals "law" = some (some (.ref f8))) (l8 : K.lookup f8 = some ⟨oc8, od8, .func (PySem.W.fnOf "law" "law" (defArgs s_law) (defBody s_law) (defScope s_law) .none kV8 dc8 pm8 an8 cd8 ct8), sl8⟩) (c8 : PySem.W.codeIn K cd8 "law" = true) (k8 : PySem.W.keepIn K (.ref f8) = true)
    (z0 : PySem.W.nsIn K mainGlobals "bool" = some none)
    (z1 : PySem.W.nsIn K mainGlobals "enumerate" = some none)
    (z2 : PySem.W.nsIn K mainGlobals "int" = some none)
    (z3 : PySem.W.nsIn K mainGlobals "isinstance" = some none)
    (z4 : PySem.W.nsIn K mainGlobals "len" = some none)
    (z5 : PySem.W.nsIn K mainGlobals "list" = some none)
    (z6 : PySem.W.nsIn K mainGlobals "max" = some none)
    (z7 : PySem.W.nsIn K mainGlobals "min" = some none)
    (z8 : PySem.W.nsIn K mainGlobals "range" = some none)
    (z9 : PySem.W.nsIn K mainGlobals "sum" = some none)
    (z10 : PySem.W.nsIn K mainGlobals "tuple" = some none)
    {tk0 : Tok} (y0 : PySem.W.nsIn K mainGlobals "GROUPS" = some (some (.int 16 tk0)))
    : ∃ fd : FuncData, (∀ (s : Shared) (v : Value), BindsTo s fd ⟨[v], []⟩ [("script", v)]) ∧ ∀ base : Heap, K.In base → base.Ns mainGlobals mg → FnOk l.prog w K mg base CX0 3 fa fd ["script"] (spLaw K) := by
  have e := hfa.symm.trans (PySem.W.mg_of X G a8)
  cases e
  let T : Txt K mg := ⟨_, _, fun_mk (st := s__law_cell) l0 c0 k0, PySem.W.mg_of X G a0, _, _, fun_mk (st := s__law_digit) l1 c1 k1, PySem.W.mg_of X G a1, _, _, fun_mk (st := s__law_choose) l2 c2 k2, PySem.W.mg_of X G a2, _, _, fun_mk (st := s__law_fewest) l3 c3 k3, PySem.W.mg_of X G a3, _, _, fun_mk (st := s__law_start) l4 c4 k4, PySem.W.mg_of X G a4, _, _, fun_mk (st := s_even_owners) l5 c5 k5, PySem.W.mg_of X G a5, _, _, fun_mk (st := s_can_end) l6 c6 k6, PySem.W.mg_of X G a6, _, _, fun_mk (st := s_owners_for) l7 c7 k7, PySem.W.mg_of X G a7, _, _, fun_mk (st := s_law) l8 c8 k8, PySem.W.mg_of X G a8, PySem.W.mg_none_of X G z0, PySem.W.mg_none_of X G z1, PySem.W.mg_none_of X G z2, PySem.W.mg_none_of X G z3, PySem.W.mg_none_of X G z4, PySem.W.mg_none_of X G z5, PySem.W.mg_none_of X G z6, PySem.W.mg_none_of X G z7, PySem.W.mg_none_of X G z8, PySem.W.mg_none_of X G z9, PySem.W.mg_none_of X G z10, ⟨_, PySem.W.mg_of X G y0⟩⟩
  exact ⟨T.d_law, fun s v => .of_eq rfl, fun base _ _ => fn_law (ok_law T) law_true⟩
end Lw
open PySem PySem.W PyProof.Rows
set_option maxHeartbeats 0 in
theorem PySem.Challenge.cw_tideweir_k71_owners_holds : PySem.Challenge.rw_tideweir_k71_owners.Holds := by
  w_on; o_law; k_head; (case hw => w_witness2)
  k_fill
  refine L2.walk_of (l := PySem.Challenge.rw_tideweir_k71_owners) (n := 63) (k := 3) (x := "script") (CX := fun _ => L2.CX0) (sp := fun w => Dn.spLaw _) rfl (by decide) rfl ⟨rfl, by decide, by decide⟩ (fun w h Y => PySem.W.kIn_of Y) ?F (fun _ _ a ns hl _ hS => ⟨a, ns, rfl, hS, hl, fun _ => rfl⟩) (fun _ _ _ _ _ h => h)
  case F =>
    intro w mg fa h KX G hmg
    refine' Lw.all_mk KX G hmg ?a0 ?l0 ?c0 ?k0 ?a1 ?l1 ?c1 ?k1 ?a2 ?l2 ?c2 ?k2 ?a3 ?l3 ?c3 ?k3 ?a4 ?l4 ?c4 ?k4 ?a5 ?l5 ?c5 ?k5 ?a6 ?l6 ?c6 ?k6 ?a7 ?l7 ?c7 ?k7 ?a8 ?l8 ?c8 ?k8 ?z0 ?z1 ?z2 ?z3 ?z4 ?z5 ?z6 ?z7 ?z8 ?z9 ?z10 ?y0
    (case a0 => k_is); (case l0 => k_is); (case c0 => k_is); (case k0 => k_is); (case a1 => k_is); (case l1 => k_is); (case c1 => k_is); (case k1 => k_is); (case a2 => k_is); (case l2 => k_is); (case c2 => k_is); (case k2 => k_is); (case a3 => k_is); (case l3 => k_is); (case c3 => k_is); (case k3 => k_is); (case a4 => k_is); (case l4 => k_is); (case c4 => k_is); (case k4 => k_is); (case a5 => k_is); (case l5 => k_is); (case c5 => k_is); (case k5 => k_is); (case a6 => k_is); (case l6 => k_is); (case c6 => k_is); (case k6 => k_is); (case a7 => k_is); (case l7 => k_is); (case c7 => k_is); (case k7 => k_is); (case a8 => k_is); (case l8 => k_is); (case c8 => k_is); (case k8 => k_is); (case z0 => k_is); (case z1 => k_is); (case z2 => k_is); (case z3 => k_is); (case z4 => k_is); (case z5 => k_is); (case z6 => k_is); (case z7 => k_is); (case z8 => k_is); (case z9 => k_is); (case z10 => k_is); (case y0 => k_is)

