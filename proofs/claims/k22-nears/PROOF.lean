import PyProof.Rows.All
import Wide.All
import OpenK.AllK
import Wide.FinOn
import KE.SortData
import HandS.ForMost
import HandS.Wide
import HandS.IsInst
import HandS.TupAny
import KE.KDictKeyed
import KE.LtData
import HandS.TupLe
import PyProof.P3Eq
import HandS.Deep
import KE.GoesEnum
import HandS.Iter
import HandS.Dict
import HandS.SortInts
import HandS.Ends
import PyProof.ReprRoads
import PyProof.ReprLen
import HandS.Rev
import KE.KDictSum
import KE.KDictCopyH
import HandS.Style
import PySem.Challenge.RW_tideweir_k22_nears
set_option Elab.async false
set_option linter.all false
set_option maxRecDepth 100000
set_option maxHeartbeats 1000000
/-! data in the heap, cells, steps -/
namespace Dn
open PySem PySem.Spec PyProof.Rows L2

abbrev D := PyData
/-- what is written, the program, the world -/
structure Kx where
  K : PySem.W.Frag
  P : Program
  w : World
instance : Coe Kx PySem.W.Frag := ⟨Kx.K⟩
abbrev cxK (X : Cx) : Kx := ⟨X.K, X.prog, X.w⟩
/-- what a slot holds: a datum that stands for good, or a list of one's own (fixed: the def's parameter) -/
inductive Cell where
  | val (d : D)
  | own (fixed : Bool) (d : D)
abbrev Env := List (Option Cell)
abbrev Md (α : Type) := Env → Option (α × Env)

/-- a key of a dict as a datum -/
def keyD : Key → D
  | .inl i => .int i
  | .inr x => .str x
mutual
/-- a datum as a key within tuples -/
def nkOf : D → Option NestedKey
  | .none => some .none
  | .int i => some (.num i)
  | .str x => some (.text x)
  | .tuple xs => (nkAll xs).bind fun ks => some (.tup ks)
  | _ => none
def nkAll : List D → Option (List NestedKey)
  | [] => some []
  | x :: xs => (nkOf x).bind fun k => (nkAll xs).bind fun ks => some (k :: ks)
end
/-- .. of a depth that a dict's key may have -/
def nkD (d : D) : Option NestedKey := (nkOf d).bind fun k => if k.depth ≤ 8 ∧ d.canLay0 = true then some k else none
/-- a dict whose keys are tuples: its one object -/
def dicO (K : Kx) (a : Addr) (xs : List (NestedKey × Addr × V)) : HO := .ext fun h => (a == sysModules) = false ∧ ∃ ys : List (NestedKey × Addr × Value), Paired (fun (p : NestedKey × Addr × V) (q : NestedKey × Addr × Value) => p.1 = q.1 ∧ p.2.1 = q.2.1 ∧ RelV p.2.2 q.2.2) xs ys ∧
  ∃ o es ep, h.get? a = some o ∧ o.ExactDict ∧ o.data = .dict es ep ∧ es.toList = ys.map (entryOfKey (nestedKind K.P K.w)) ∧ (ys.map (·.1)).Nodup
mutual
/-- v stands for the datum d -/
inductive Rp (K : Kx) (H : Hp) : V → D → Prop
  | non : Rp K H .non .none
  | bl (b : Bool) : Rp K H (.bl b) (.bool b)
  | int (i : Int) : Rp K H (.int i) (.int i)
  | str (x : Str) : Rp K H (.str x) (.str x)
  | lst {a : Addr} {vs : List V} {es : List D} (hs : SqL K H a vs) (hr : RpAll K H vs es) : Rp K H (.ref a) (.list es)
  | tup {a : Addr} {vs : List V} {es : List D} (hs : SqT K H a vs) (hr : RpAll K H vs es) : Rp K H (.ref a) (.tuple es)
  | dic {a : Addr} {ks : List (Key × V)} {es : List (D × D)} (hs : H a = some (.dK ks)) (hr : RpKV K H ks es) : Rp K H (.ref a) (.dict es)
  | dicN {a : Addr} {xs : List (NestedKey × Addr × V)} {es : List (D × D)} (hs : H a = some (dicO K a xs)) (hr : RpN K H xs es) : Rp K H (.ref a) (.dict es)
inductive RpAll (K : Kx) (H : Hp) : List V → List D → Prop
  | nil : RpAll K H [] []
  | cons {v : V} {vs : List V} {d : D} {es : List D} (h1 : Rp K H v d) (h2 : RpAll K H vs es) : RpAll K H (v :: vs) (d :: es)
inductive RpKV (K : Kx) (H : Hp) : List (Key × V) → List (D × D) → Prop
  | nil : RpKV K H [] []
  | cons {k : Key} {v : V} {ks : List (Key × V)} {d : D} {es : List (D × D)} (h1 : Rp K H v d) (h2 : RpKV K H ks es) : RpKV K H ((k, v) :: ks) ((keyD k, d) :: es)
inductive RpN (K : Kx) (H : Hp) : List (NestedKey × Addr × V) → List (D × D) → Prop
  | nil : RpN K H [] []
  | cons {k : NestedKey} {ka : Addr} {x : V} {dk dv : D} {xs : List (NestedKey × Addr × V)} {es : List (D × D)} (hk : nkD dk = some k) (h1 : Rp K H (.ref ka) dk) (h2 : Rp K H x dv) (h3 : RpN K H xs es) : RpN K H ((k, ka, x) :: xs) ((dk, dv) :: es)
end
mutual
theorem rp_dp {K : Kx} {H : Hp} : ∀ {d : D} {v : V}, Rp K H v d → d.canLay0 = true → Dp K H v d
  | .none, _, h, _ => by cases h; exact .non
  | .bool _, _, h, _ => by cases h; exact .bl _
  | .int _, _, h, _ => by cases h; exact .int _
  | .str _, _, h, _ => by cases h; exact .str _
  | .list es, _, h, c => by
    cases h with
    | lst hs hr => exact .lst hs (rpAll_dp hr (by simpa [PyData.canLay0] using c))
  | .tuple es, _, h, c => by
    cases h with
    | tup hs hr => exact .tup hs (rpAll_dp hr (by simpa [PyData.canLay0] using c))
  | .dict _, _, _, c => by simp [PyData.canLay0] at c
theorem rpAll_dp {K : Kx} {H : Hp} : ∀ {ds : List D} {vs : List V}, RpAll K H vs ds → PyData.canLayAll0 ds = true → DpAll K H vs ds
  | [], _, h, _ => by cases h; exact .nil
  | d :: ds, _, h, c => by
    have c' : d.canLay0 = true ∧ PyData.canLayAll0 ds = true := by simpa [PyData.canLayAll0] using c
    cases h with
    | cons h1 h2 => exact .cons (rp_dp h1 c'.1) (rpAll_dp h2 c'.2)
end
theorem seqT_same {K : Kx} {H H' : Hp} {a : Addr} {xs : List V} (e : Same H H') (h : SqT K H a xs) : SqT K H' a xs := by
  rcases h with (h | ⟨o, h⟩) | h
  · exact .inl (.inl (e _ _ h))
  · exact .inl (.inr ⟨o, e _ _ h⟩)
  · exact .inr h
mutual
theorem dp_mono {K : Kx} {H H' : Hp} (e : Same H H') : ∀ (d : D) (v : V), Rp K H v d → Rp K H' v d
  | .none, _, h => by cases h; exact .non
  | .bool _, _, h => by cases h; exact .bl _
  | .int _, _, h => by cases h; exact .int _
  | .str _, _, h => by cases h; exact .str _
  | .list ds, _, h => by
    cases h with
    | lst hs ha => exact .lst (e.seq hs) (dpAll_mono e ds _ ha)
  | .tuple ds, _, h => by
    cases h with
    | tup hs ha => exact .tup (seqT_same e hs) (dpAll_mono e ds _ ha)
  | .dict es, _, h => by
    cases h with
    | dic hs hr => exact .dic (e _ _ hs) (dpKV_mono e es _ hr)
    | dicN hs hr => exact .dicN (e _ _ hs) (dpN_mono e es _ hr)
theorem dpAll_mono {K : Kx} {H H' : Hp} (e : Same H H') : ∀ (ds : List D) (vs : List V), RpAll K H vs ds → RpAll K H' vs ds
  | [], _, h => by cases h; exact .nil
  | d :: ds, _, h => by
    cases h with
    | cons h1 h2 => exact .cons (dp_mono e d _ h1) (dpAll_mono e ds _ h2)
theorem dpKV_mono {K : Kx} {H H' : Hp} (e : Same H H') : ∀ (ds : List (D × D)) (vs : List (Key × V)), RpKV K H vs ds → RpKV K H' vs ds
  | [], _, h => by cases h; exact .nil
  | (k, d) :: ds, _, h => by
    cases h with
    | cons h1 h2 => exact .cons (dp_mono e d _ h1) (dpKV_mono e ds _ h2)
theorem dpN_mono {K : Kx} {H H' : Hp} (e : Same H H') : ∀ (ds : List (D × D)) (xs : List (NestedKey × Addr × V)), RpN K H xs ds → RpN K H' xs ds
  | [], _, h => by cases h; exact .nil
  | (k, d) :: ds, _, h => by
    cases h with
    | cons h0 h1 h2 h3 => exact .cons h0 (dp_mono e k _ h1) (dp_mono e d _ h2) (dpN_mono e ds _ h3)
end
theorem da_len {K : Kx} {H : Hp} : ∀ {vs : List V} {ds : List D}, RpAll K H vs ds → vs.length = ds.length
  | _, _, .nil => rfl
  | _, _, .cons _ t => congrArg (· + 1) (da_len t)
theorem da_get {K : Kx} {H : Hp} : ∀ {vs : List V} {ds : List D} {i : Nat} {v : V}, RpAll K H vs ds → vs[i]? = some v → ∃ d, ds[i]? = some d ∧ Rp K H v d
  | _, _, i, v, .nil, e => by simp at e
  | _, _, 0, v, .cons h _, e => by
    have q := Option.some.inj e
    subst q
    exact ⟨_, rfl, h⟩
  | _, _, i + 1, v, .cons _ t, e => da_get (i := i) t e
theorem da_at {K : Kx} {H : Hp} : ∀ {vs : List V} {ds : List D} {i : Nat} {d : D}, RpAll K H vs ds → ds[i]? = some d → ∃ v, vs[i]? = some v ∧ Rp K H v d
  | _, _, i, v, .nil, e => by simp at e
  | _, _, 0, v, .cons h _, e => by
    have q := Option.some.inj e
    subst q
    exact ⟨_, rfl, h⟩
  | _, _, i + 1, v, .cons _ t, e => da_at (i := i) t e
theorem da_app {K : Kx} {H : Hp} : ∀ {vs ws : List V} {ds es : List D}, RpAll K H vs ds → RpAll K H ws es → RpAll K H (vs ++ ws) (ds ++ es)
  | _, _, _, _, .nil, h => h
  | _, _, _, _, .cons h t, q => .cons h (da_app t q)
theorem da_drop {K : Kx} {H : Hp} : ∀ {vs : List V} {ds : List D} (n : Nat), RpAll K H vs ds → RpAll K H (vs.drop n) (ds.drop n)
  | _, _, 0, h => h
  | _, _, _ + 1, .nil => .nil
  | _, _, n + 1, .cons _ t => da_drop n t
theorem da_take {K : Kx} {H : Hp} : ∀ {vs : List V} {ds : List D} (n : Nat), RpAll K H vs ds → RpAll K H (vs.take n) (ds.take n)
  | _, _, 0, _ => .nil
  | _, _, _ + 1, .nil => .nil
  | _, _, n + 1, .cons h t => .cons h (da_take n t)
theorem da_set {K : Kx} {H : Hp} {v : V} {d : D} (r : Rp K H v d) : ∀ {vs : List V} {ds : List D} (n : Nat), RpAll K H vs ds → RpAll K H (vs.set n v) (ds.set n d)
  | _, _, _, .nil => .nil
  | _, _, 0, .cons _ t => .cons r t
  | _, _, n + 1, .cons h t => .cons h (da_set r n t)
theorem da_rev {K : Kx} {H : Hp} : ∀ {vs : List V} {ds : List D}, RpAll K H vs ds → RpAll K H vs.reverse ds.reverse
  | _, _, .nil => .nil
  | _, _, .cons h t => by
    rw [List.reverse_cons, List.reverse_cons]
    exact da_app (da_rev t) (.cons h .nil)
theorem da_ints {K : Kx} {H : Hp} : ∀ ns : List Int, RpAll K H (ns.map V.int) (ns.map PyData.int)
  | [] => .nil
  | n :: ns => .cons (.int n) (da_ints ns)
theorem da_of_ints {K : Kx} {H : Hp} : ∀ (ns : List Int) {vs : List V}, RpAll K H vs (ns.map PyData.int) → vs = ns.map V.int
  | [], _, h => by cases h; rfl
  | n :: ns, _, h => by
    cases h with
    | cons a t =>
      cases a
      rw [da_of_ints ns t]
      rfl

/-- a list of one's own at a: it isn't among what stands for good -/
def OwnB (K : Kx) (F H : Hp) (a : Addr) (d : D) : Prop := (∃ xs ds, d = .list ds ∧ H a = some (.lst xs) ∧ RpAll K F xs ds) ∨ (∃ xs es, d = .dict es ∧ H a = some (dicO K a xs) ∧ RpN K F xs es)
def OwnAt (K : Kx) (F H : Hp) (a : Addr) (d : D) : Prop := F a = none ∧ OwnB K F H a d
theorem OwnAt.there {K : Kx} {F H : Hp} {a : Addr} {d : D} (h : OwnAt K F H a d) : ∃ o, H a = some o := by
  rcases h.2 with ⟨_, _, _, e, _⟩ | ⟨_, _, _, e, _⟩ <;> exact ⟨_, e⟩
theorem OwnB.mono {K : Kx} {F F' H H' : Hp} {a : Addr} {d : D} (h : OwnB K F H a d) (f : Same F F') (e : ∀ o, H a = some o → H' a = some o) : OwnB K F' H' a d := by
  rcases h with ⟨xs, ds, e1, e2, r⟩ | ⟨xs, es, e1, e2, r⟩
  · exact .inl ⟨xs, ds, e1, e _ e2, dpAll_mono f _ _ r⟩
  · exact .inr ⟨xs, es, e1, e _ e2, dpN_mono f _ _ r⟩

def CellOk (K : Kx) (F H : Hp) (x : Option (Option V)) : Cell → Prop
  | .val d => ∃ v, x = some (some v) ∧ Rp K F v d
  | .own _ d => ∃ a, x = some (some (.ref a)) ∧ OwnAt K F H a d

def Owns (σ : L2.St) (ρ : Env) (b : Addr) : Prop := ∃ (i : Nat) (f : Bool) (d : D), ρ[i]? = some (some (.own f d)) ∧ σ[i]? = some (some (.ref b))

/-- slots and heap bear the data environment; F is what stands for good -/
structure St (K : Kx) (F H : Hp) (σ : L2.St) (ρ : Env) : Prop where
  sub : Same F H
  len : ρ.length = σ.length
  cell : ∀ (i : Nat) (c : Cell), ρ[i]? = some (some c) → CellOk K F H σ[i]? c
  dist : ∀ (i j : Nat) (f g : Bool) (d e : D) (a : Addr), ρ[i]? = some (some (.own f d)) → ρ[j]? = some (some (.own g e)) → σ[i]? = some (some (.ref a)) → σ[j]? = some (some (.ref a)) → i = j

theorem St.free {K : Kx} {F H : Hp} {σ : L2.St} {ρ : Env} (s : St K F H σ ρ) {b : Addr} (o : Owns σ ρ b) : F b = none ∧ ∃ u, H b = some u := by
  obtain ⟨i, f, d, e, e2⟩ := o
  obtain ⟨a, e3, h⟩ := s.cell i _ e
  rw [e2] at e3
  cases e3
  exact ⟨h.1, h.there⟩

/-- from one state to another: what stood, but one's own, stands -/
structure Stp (F : Hp) (σ : L2.St) (ρ : Env) (H : Hp) (F' : Hp) (σ' : L2.St) (ρ' : Env) (H' : Hp) : Prop where
  ff : Same F F'
  keep : ∀ b o, H b = some o → ¬ Owns σ ρ b → H' b = some o ∧ F' b = F b
  fresh : ∀ b, Owns σ' ρ' b → Owns σ ρ b ∨ H b = none
  fix : ∀ (i : Nat) (d : D), ρ[i]? = some (some (.own true d)) → σ'[i]? = σ[i]? ∧ ∃ d', ρ'[i]? = some (some (.own true d'))
  dom : ∀ b o, H b = some o → ∃ o', H' b = some o'
theorem Stp.refl {F : Hp} {σ : L2.St} {ρ : Env} {H : Hp} : Stp F σ ρ H F σ ρ H := ⟨Same.refl _, fun _ _ h _ => ⟨h, rfl⟩, fun _ h => .inl h, fun _ d h => ⟨rfl, d, h⟩, fun _ o h => ⟨o, h⟩⟩
theorem Stp.trans {F F1 F2 : Hp} {σ σ1 σ2 : L2.St} {ρ ρ1 ρ2 : Env} {H H1 H2 : Hp} (a : Stp F σ ρ H F1 σ1 ρ1 H1) (b : Stp F1 σ1 ρ1 H1 F2 σ2 ρ2 H2) : Stp F σ ρ H F2 σ2 ρ2 H2 where
  ff := a.ff.trans b.ff
  keep := fun c o h n => by
    obtain ⟨h1, f1⟩ := a.keep c o h n
    have n1 : ¬ Owns σ1 ρ1 c := fun z => by
      rcases a.fresh c z with y | y
      · exact n y
      · rw [h] at y; cases y
    obtain ⟨h2, f2⟩ := b.keep c o h1 n1
    exact ⟨h2, f2.trans f1⟩
  fresh := fun c z => by
    rcases b.fresh c z with y | y
    · exact a.fresh c y
    · cases q : H c with
      | none => exact .inr rfl
      | some o =>
        by_cases n : Owns σ ρ c
        · exact .inl n
        · rw [(a.keep c o q n).1] at y; cases y
  fix := fun i d h => by
    obtain ⟨e1, d1, h1⟩ := a.fix i d h
    obtain ⟨e2, d2, h2⟩ := b.fix i d1 h1
    exact ⟨e2.trans e1, d2, h2⟩
  dom := fun c o h => by
    obtain ⟨o1, h1⟩ := a.dom c o h
    exact b.dom c o1 h1
theorem Stp.none {F F1 : Hp} {σ σ1 : L2.St} {ρ ρ1 : Env} {H H1 : Hp} (a : Stp F σ ρ H F1 σ1 ρ1 H1) {p : Addr} (h : H1 p = none) : H p = none := by
  cases q : H p with
  | none => rfl
  | some o =>
    obtain ⟨o', e⟩ := a.dom p o q
    rw [h] at e
    cases e

/-- new things, and nothing else -/
structure Grow (F H F' H' : Hp) : Prop where
  ff : Same F F'
  hh : Same H H'
  fh : Same F' H'
  new : ∀ b o, H b = some o → F' b = F b
theorem Grow.refl {F H : Hp} (s : Same F H) : Grow F H F H := ⟨Same.refl _, Same.refl _, s, fun _ _ _ => rfl⟩
theorem Grow.trans {F H F1 H1 F2 H2 : Hp} (a : Grow F H F1 H1) (b : Grow F1 H1 F2 H2) : Grow F H F2 H2 :=
  ⟨a.ff.trans b.ff, a.hh.trans b.hh, b.fh, fun c o h => (b.new c o (a.hh c o h)).trans (a.new c o h)⟩
theorem same_new {H : Hp} {p : Addr} {o : HO} (h : H p = none) : Same H (upd H p o) := fun b x e => by
  rw [upd_ne (ne_of_none e h)]
  exact e
theorem same_upd2 {F H : Hp} {p : Addr} {o : HO} (s : Same F H) : Same (upd F p o) (upd H p o) := fun b x e => by
  by_cases h : b = p
  · subst h
    rw [upd_same] at e ⊢
    exact e
  · rw [upd_ne h] at e ⊢
    exact s b x e
theorem none_sub {F H : Hp} {p : Addr} (s : Same F H) (h : H p = none) : F p = none := s.free h
/-- a new thing that stands for good -/
theorem Grow.val {F H : Hp} {p : Addr} {o : HO} (s : Same F H) (h : H p = none) : Grow F H (upd F p o) (upd H p o) :=
  ⟨same_new (none_sub s h), same_new h, same_upd2 s, fun b x e => upd_ne (ne_of_none e h)⟩
/-- a new thing of one's own -/
theorem Grow.own {F H : Hp} {p : Addr} {o : HO} (s : Same F H) (h : H p = none) : Grow F H F (upd H p o) :=
  ⟨Same.refl _, same_new h, s.trans (same_new h), fun _ _ _ => rfl⟩
theorem OwnAt.grow {K : Kx} {F H F' H' : Hp} {a : Addr} {d : D} (g : Grow F H F' H') (h : OwnAt K F H a d) : OwnAt K F' H' a d := by
  obtain ⟨o, ho⟩ := h.there
  exact ⟨(g.new a _ ho).trans h.1, h.2.mono g.ff fun o e => g.hh _ _ e⟩
theorem St.grow {K : Kx} {F H F' H' : Hp} {σ : L2.St} {ρ : Env} (s : St K F H σ ρ) (g : Grow F H F' H') : St K F' H' σ ρ where
  sub := g.fh
  len := s.len
  cell := fun i c e => by
    have q := s.cell i c e
    cases c with
    | val d =>
      obtain ⟨v, e1, r⟩ := q
      exact ⟨v, e1, dp_mono g.ff _ _ r⟩
    | own f d =>
      obtain ⟨a, e1, r⟩ := q
      exact ⟨a, e1, r.grow g⟩
  dist := s.dist
theorem Grow.stp {F H F' H' : Hp} (g : Grow F H F' H') (σ : L2.St) (ρ : Env) : Stp F σ ρ H F' σ ρ H' :=
  ⟨g.ff, fun b o h _ => ⟨g.hh b o h, g.new b o h⟩, fun _ h => .inl h, fun _ d h => ⟨rfl, d, h⟩, fun b o h => ⟨o, g.hh b o h⟩⟩

/-! ### the readings -/
section
variable (K : Kx)
def tD (g : Md D) : TE := fun σ H Q => ∃ (F : Hp) (ρ : Env) (d : D) (ρ' : Env), St K F H σ ρ ∧ g ρ = some (d, ρ') ∧
  ∀ v F' H', Stp F σ ρ H F' σ ρ' H' → St K F' H' σ ρ' → Rp K F' v d → Q v H'
/-- the answer is a new list of one's own -/
def tF (g : Md D) : TE := fun σ H Q => ∃ (F : Hp) (ρ : Env) (d : D) (ρ' : Env), St K F H σ ρ ∧ g ρ = some (d, ρ') ∧
  ∀ a F' H', Stp F σ ρ H F' σ ρ' H' → St K F' H' σ ρ' → OwnAt K F' H' a d → ¬ Owns σ ρ' a → H a = none → Q (.ref a) H'
def tDT (g : Md Bool) : TT := fun σ H Q => ∃ (F : Hp) (ρ : Env) (d : Bool) (ρ' : Env), St K F H σ ρ ∧ g ρ = some (d, ρ') ∧
  ∀ F' H', Stp F σ ρ H F' σ ρ' H' → St K F' H' σ ρ' → Q d H'
def tDA (g : Md (List D)) : TA := fun σ H Q => ∃ (F : Hp) (ρ : Env) (ds : List D) (ρ' : Env), St K F H σ ρ ∧ g ρ = some (ds, ρ') ∧
  ∀ vs F' H', Stp F σ ρ H F' σ ρ' H' → St K F' H' σ ρ' → RpAll K F' vs ds → Q vs H'
inductive Fl where
  | nx | ret (d : D) | rof (d : D) | brk | cnt
abbrev Sd := Env → Option (Fl × Env)
def FlOk (E : Ends) (H0 F' : Hp) (σ' : L2.St) (H' : Hp) : Fl → Prop
  | .nx => E.nx σ' H'
  | .ret d => ∀ v, Rp K F' v d → E.rt v H'
  | .rof d => ∀ a, OwnAt K F' H' a d → H0 a = none → E.rt (.ref a) H'
  | .brk => E.bk σ' H'
  | .cnt => E.ct σ' H'
def tDS (g : Sd) : TS := fun E σ H => ∃ (F : Hp) (ρ : Env) (f : Fl) (ρ' : Env), St K F H σ ρ ∧ g ρ = some (f, ρ') ∧
  ∀ σ' F' H', Stp F σ ρ H F' σ' ρ' H' → St K F' H' σ' ρ' → FlOk K E H F' σ' H' f
/-- a target's reading: the datum is stored -/
def tDG (is : List Nat) (g : D → Env → Option Env) : TG := fun v σ H Q => ∃ (F : Hp) (ρ : Env) (d : D) (ρ' : Env), St K F H σ ρ ∧ Rp K F v d ∧ g d ρ = some ρ' ∧
  ∀ σ' F' H', Stp F σ ρ H F' σ' ρ' H' → St K F' H' σ' ρ' → (σ'.length = σ.length ∧ ∀ j, j ∉ is → σ'[j]? = σ[j]?) → Q σ' H'
/-- operators: the answer from the data -/
def rP2 (f : D → D → Option D) : R2 := fun x y H Q => ∃ (F : Hp) (d e r : D), Same F H ∧ Rp K F x d ∧ Rp K F y e ∧ f d e = some r ∧ ∀ v F' H', Grow F H F' H' → Rp K F' v r → Q v H'
def rP1 (f : D → Option D) : V → Hp → VK → Prop := fun x H Q => ∃ (F : Hp) (d r : D), Same F H ∧ Rp K F x d ∧ f d = some r ∧ ∀ v F' H', Grow F H F' H' → Rp K F' v r → Q v H'
def rPn (f : List D → Option D) : List V → Hp → VK → Prop := fun xs H Q => ∃ (F : Hp) (ds : List D) (r : D), Same F H ∧ RpAll K F xs ds ∧ f ds = some r ∧ ∀ v F' H', Grow F H F' H' → Rp K F' v r → Q v H'
/-- .. a new list -/
def rFn (f : List D → Option D) : List V → Hp → VK → Prop := fun xs H Q => ∃ (F : Hp) (ds : List D) (r : D), Same F H ∧ RpAll K F xs ds ∧ f ds = some r ∧ ∀ a F' H', Grow F H F' H' → OwnAt K F' H' a r → H a = none → Q (.ref a) H'
end
abbrev DE (X : Cx) (e : Expr) (g : Md D) : Prop := PE X e (tD (cxK X) g)
abbrev DF (X : Cx) (e : Expr) (g : Md D) : Prop := PE X e (tF (cxK X) g)
abbrev DT (X : Cx) (e : Expr) (g : Md Bool) : Prop := PT X e (tDT (cxK X) g)
abbrev DW (X : Cx) (e : Expr) (g : Md Bool) : Prop := PW X e (tDT (cxK X) g)
abbrev DA (X : Cx) (es : List Expr) (g : Md (List D)) : Prop := PA X es (tDA (cxK X) g)
abbrev DS (X : Cx) (st : Stmt) (g : Sd) : Prop := PS X st (tDS (cxK X) g)
abbrev DSs (X : Cx) (st : List Stmt) (g : Sd) : Prop := PSs X st (tDS (cxK X) g)
abbrev DG (X : Cx) (e : Expr) (is : List Nat) (g : D → Env → Option Env) : Prop := PG X e (tDG (cxK X) is g)

theorem pe_imp {X : Cx} {e : Expr} {t t' : TE} (h : PE X e t) (i : ∀ σ H Q, t' σ H Q → t σ H Q) : PE X e t' := ⟨fun pins s σ H Q I q => h.run pins s σ H Q I (i σ H Q q)⟩
theorem pt_imp {X : Cx} {e : Expr} {t t' : TT} (h : PT X e t) (i : ∀ σ H Q, t' σ H Q → t σ H Q) : PT X e t' := ⟨fun pins s σ H Q I q => h.run pins s σ H Q I (i σ H Q q)⟩
theorem pw_imp {X : Cx} {e : Expr} {t t' : TT} (h : PW X e t) (i : ∀ σ H Q, t' σ H Q → t σ H Q) : PW X e t' := ⟨fun wh pins s σ H Q I q => h.run wh pins s σ H Q I (i σ H Q q)⟩
theorem pa_imp {X : Cx} {e : List Expr} {t t' : TA} (h : PA X e t) (i : ∀ σ H Q, t' σ H Q → t σ H Q) : PA X e t' := ⟨fun pos pins s σ H Q I q => h.run pos pins s σ H Q I (i σ H Q q)⟩
theorem ps_imp {X : Cx} {e : Stmt} {t t' : TS} (h : PS X e t) (i : ∀ E σ H, t' E σ H → t E σ H) : PS X e t' := ⟨fun pins s σ H E I q => h.run pins s σ H E I (i E σ H q)⟩
theorem pss_imp {X : Cx} {e : List Stmt} {t t' : TS} (h : PSs X e t) (i : ∀ E σ H, t' E σ H → t E σ H) : PSs X e t' := ⟨fun pins s σ H E I q => h.run pins s σ H E I (i E σ H q)⟩
theorem pg_imp {X : Cx} {e : Expr} {t t' : TG} (h : PG X e t) (i : ∀ v σ H Q, t' v σ H Q → t v σ H Q) : PG X e t' := ⟨fun pins s σ H v u Q I r q => h.run pins s σ H v u Q I r (i v σ H Q q)⟩
end Dn
set_option maxHeartbeats 1000000
/-! expressions over data -/
namespace Dn
open PySem PySem.Spec PyProof.Rows L2

/-! ### the functions on data -/
def gC (d : D) : Md D := fun ρ => some (d, ρ)
def gVar (i : Nat) : Md D := fun ρ => match ρ[i]? with
  | some (some (.val d)) => some (d, ρ)
  | _ => none
def gFrz (i : Nat) : Md D := fun ρ => match ρ[i]? with
  | some (some (.val d)) => some (d, ρ)
  | some (some (.own false d)) => some (d, ρ.set i (some (.val d)))
  | _ => none
def gBin (f : D → D → Option D) (ga gb : Md D) : Md D := fun ρ => (ga ρ).bind fun p => (gb p.2).bind fun q => (f p.1 q.1).bind fun r => some (r, q.2)
def gUn (f : D → Option D) (ga : Md D) : Md D := fun ρ => (ga ρ).bind fun p => (f p.1).bind fun r => some (r, p.2)
def bOf : D → Option Bool
  | .bool b => some b
  | _ => none
def gTst (g : Md D) : Md Bool := fun ρ => (g ρ).bind fun p => (bOf p.1).bind fun b => some (b, p.2)
def gChain (f f' : D → D → Option D) (ga gb gc : Md D) : Md D := fun ρ => (ga ρ).bind fun p => (gb p.2).bind fun q => (f p.1 q.1).bind fun r => (bOf r).bind fun b =>
  if b = true then (gc q.2).bind fun t => (f' q.1 t.1).bind fun r => some (r, t.2) else some (.bool false, q.2)
def gAnd (ga gb : Md Bool) : Md Bool := fun ρ => (ga ρ).bind fun p => if p.1 = true then gb p.2 else some (false, p.2)
def gOr (ga gb : Md Bool) : Md Bool := fun ρ => (ga ρ).bind fun p => if p.1 = true then some (true, p.2) else gb p.2
def gNot (ga : Md Bool) : Md Bool := fun ρ => (ga ρ).bind fun p => some (!p.1, p.2)
def gAndV (ga gb : Md D) : Md D := fun ρ => (ga ρ).bind fun p => (bOf p.1).bind fun b => if b = true then gb p.2 else some (.bool false, p.2)
def gOrV (ga gb : Md D) : Md D := fun ρ => (ga ρ).bind fun p => (bOf p.1).bind fun b => if b = true then some (.bool true, p.2) else gb p.2
def gNotV (ga : Md D) : Md D := fun ρ => (ga ρ).bind fun p => (bOf p.1).bind fun b => some (.bool (!b), p.2)
def gIfE (gc : Md Bool) (ga gb : Md D) : Md D := fun ρ => (gc ρ).bind fun p => if p.1 = true then ga p.2 else gb p.2
def gNil : Md (List D) := fun ρ => some ([], ρ)
def gCons (g : Md D) (gs : Md (List D)) : Md (List D) := fun ρ => (g ρ).bind fun p => (gs p.2).bind fun q => some (p.1 :: q.1, q.2)
def gApp (f : List D → Option D) (gs : Md (List D)) : Md D := fun ρ => (gs ρ).bind fun p => (f p.1).bind fun r => some (r, p.2)

section
variable {X : Cx} {a b c e : Expr} {es : List Expr} {pos : Pos}

theorem st_owned {K : Kx} {F H : Hp} {σ : L2.St} {ρ : Env} {i : Nat} {f : Bool} {d : D} (s : St K F H σ ρ) (e : ρ[i]? = some (some (.own f d))) : ∃ a, σ[i]? = some (some (.ref a)) ∧ OwnAt K F H a d ∧ Owns σ ρ a := by
  obtain ⟨a, e1, h⟩ := s.cell i _ e
  exact ⟨a, e1, h, i, f, d, e, e1⟩
theorem st_val {K : Kx} {F H : Hp} {σ : L2.St} {ρ : Env} {i : Nat} {d : D} (s : St K F H σ ρ) (e : ρ[i]? = some (some (.val d))) : ∃ v, σ[i]? = some (some v) ∧ Rp K F v d := s.cell i _ e

/-- a list of one's own comes to stand for good -/
theorem own_dp {K : Kx} {F H : Hp} {a : Addr} {d : D} (h : OwnAt K F H a d) : ∃ o, H a = some o ∧ Same F (upd F a o) ∧ Rp K (upd F a o) (.ref a) d := by
  obtain ⟨f, h⟩ := h
  rcases h with ⟨xs, ds, rfl, e, r⟩ | ⟨xs, es, rfl, e, r⟩
  · exact ⟨_, e, same_new f, .lst (.inl (.inl upd_same)) (dpAll_mono (same_new f) _ _ r)⟩
  · exact ⟨_, e, same_new f, .dicN upd_same (dpN_mono (same_new f) _ _ r)⟩
theorem sub_upd {F H : Hp} {a : Addr} {o : HO} (s : Same F H) (e : H a = some o) : Same (upd F a o) H := fun b x h => by
  by_cases q : b = a
  · subst q
    rw [upd_same] at h
    rw [e]
    exact h
  · rw [upd_ne q] at h
    exact s b x h
theorem own_keep {K : Kx} {F H : Hp} {a b : Addr} {d : D} {o : HO} (h : OwnAt K F H b d) (n : b ≠ a) (hF : F a = none) : OwnAt K (upd F a o) H b d := by
  exact ⟨(upd_ne n).trans h.1, h.2.mono (same_new hF) fun _ e => e⟩
theorem st_frz {K : Kx} {F H : Hp} {σ : L2.St} {ρ : Env} {a : Addr} {o : HO} (s : St K F H σ ρ) (hF : F a = none) (e : H a = some o) (n : ¬ Owns σ ρ a) : St K (upd F a o) H σ ρ where
  sub := sub_upd s.sub e
  len := s.len
  cell := fun i c h => by
    have q := s.cell i c h
    cases c with
    | val d =>
      obtain ⟨v, e1, r⟩ := q
      exact ⟨v, e1, dp_mono (same_new hF) _ _ r⟩
    | own f d =>
      obtain ⟨b, e1, r⟩ := q
      exact ⟨b, e1, own_keep r (fun z => n (by subst z; exact ⟨i, f, d, h, e1⟩)) hF⟩
  dist := s.dist

theorem get_set_self {α : Type} {l : List α} {i : Nat} {x y : α} (h : l[i]? = some y) : (l.set i x)[i]? = some x := List.getElem?_set_self (List.getElem?_eq_some_iff.mp h).1
theorem get_set_ne {α : Type} {l : List α} {i j : Nat} {x : α} (h : j ≠ i) : (l.set i x)[j]? = l[j]? := List.getElem?_set_ne (Ne.symm h)

theorem df_de {g : Md D} (h : DF X e g) : DE X e g := pe_imp h fun σ H Q q => by
  obtain ⟨F, ρ, d, ρ', s, eg, k⟩ := q
  refine ⟨F, ρ, d, ρ', s, eg, fun a F' H' st s' o n hn => ?_⟩
  obtain ⟨u, eu, sf, r⟩ := own_dp o
  refine k (.ref a) (upd F' a u) H' ⟨st.ff.trans sf, fun b x hb nb => ?_, st.fresh, st.fix, st.dom⟩ (st_frz s' o.1 eu n) r
  obtain ⟨h1, h2⟩ := st.keep b x hb nb
  exact ⟨h1, (upd_ne (ne_of_none hb hn)).trans h2⟩

theorem de_var (i : Nat) {x : Str} (hN : X.N[i]? = some x) (hv : Vis X.env.scope x) (hd : (x == ("__debug__" : Str)) = false := by decide) (hcd : (x == ("__classdict__" : Str)) = false := by decide) : DE X (.Name x pos) (gVar i) :=
  pe_imp (pe_var hN hv hd hcd) fun σ H Q q => by
    obtain ⟨F, ρ, d, ρ', s, eg, k⟩ := q
    unfold gVar at eg
    split at eg
    · rename_i d' h
      cases eg
      obtain ⟨v, e1, r⟩ := st_val s h
      exact ⟨v, e1, k v F H Stp.refl s r⟩
    · cases eg
theorem de_frz (i : Nat) {x : Str} (hN : X.N[i]? = some x) (hv : Vis X.env.scope x) (hd : (x == ("__debug__" : Str)) = false := by decide) (hcd : (x == ("__classdict__" : Str)) = false := by decide) : DE X (.Name x pos) (gFrz i) :=
  pe_imp (pe_var hN hv hd hcd) fun σ H Q q => by
    obtain ⟨F, ρ, d, ρ', s, eg, k⟩ := q
    unfold gFrz at eg
    split at eg
    · rename_i d' h
      cases eg
      obtain ⟨v, e1, r⟩ := st_val s h
      exact ⟨v, e1, k v F H Stp.refl s r⟩
    · rename_i d' h
      cases eg
      obtain ⟨a, e1, r, ow⟩ := st_owned s h
      obtain ⟨u, eu, sf, rd⟩ := own_dp r
      refine ⟨.ref a, e1, k (.ref a) (upd F a u) H ⟨sf, fun b o hb nb => ⟨hb, upd_ne fun z => nb (by subst z; exact ow)⟩, fun b hb => ?_, fun j dj hj => ?_, fun _ o h => ⟨o, h⟩⟩ ?_ rd⟩
      · obtain ⟨j, f, dj, h1, h2⟩ := hb
        by_cases z : j = i
        · subst z
          rw [get_set_self h] at h1
          cases h1
        · rw [get_set_ne z] at h1
          exact .inl ⟨j, f, dj, h1, h2⟩
      · have z : j ≠ i := fun z => by
          subst z
          rw [h] at hj
          cases hj
        exact ⟨rfl, dj, by rw [get_set_ne z]; exact hj⟩
      · refine ⟨sub_upd s.sub eu, by rw [List.length_set]; exact s.len, fun j c hj => ?_, fun j l f g dj dl b h1 h2 h3 h4 => ?_⟩
        · by_cases z : j = i
          · subst z
            rw [get_set_self h] at hj
            cases hj
            exact ⟨.ref a, e1, rd⟩
          · rw [get_set_ne z] at hj
            have q := s.cell j c hj
            cases c with
            | val dj =>
              obtain ⟨v, e2, r2⟩ := q
              exact ⟨v, e2, dp_mono sf _ _ r2⟩
            | own f dj =>
              obtain ⟨b, e2, r2⟩ := q
              exact ⟨b, e2, own_keep r2 (fun y => z (by subst y; exact s.dist j i f false dj _ _ hj h e2 e1)) r.1⟩
        · have z1 : j ≠ i := fun z => by subst z; rw [get_set_self h] at h1; cases h1
          have z2 : l ≠ i := fun z => by subst z; rw [get_set_self h] at h2; cases h2
          rw [get_set_ne z1] at h1
          rw [get_set_ne z2] at h2
          exact s.dist j l f g dj dl b h1 h2 h3 h4
    · cases eg
theorem de_const {t : TE} {d : D} {v : V} (h : PE X e (tC v)) (r : ∀ F, Rp (cxK X) F v d) : DE X e (gC d) := pe_imp h fun σ H Q q => by
  obtain ⟨F, ρ, d', ρ', s, eg, k⟩ := q
  cases eg
  exact k v F H Stp.refl s (r F)
theorem de_int {i : Int} {j : Nat} : DE X (.Constant (.int i) j pos) (gC (.int i)) := de_const (t := tC .non) pe_int fun _ => .int i
theorem de_bl {b : Bool} {j : Nat} : DE X (.Constant (.bool b) j pos) (gC (.bool b)) := de_const (t := tC .non) pe_bl fun _ => .bl b
theorem de_non {j : Nat} : DE X (.Constant .none j pos) (gC .none) := de_const (t := tC .non) pe_non fun _ => .non
theorem de_str {x : Str} {j : Nat} : DE X (.Constant (.str x) j pos) (gC (.str x)) := de_const (t := tC .non) pe_str fun _ => .str x

theorem bind_some {α β : Type} {o : Option α} {f : α → Option β} {r : β} (h : o.bind f = some r) : ∃ a, o = some a ∧ f a = some r := by
  cases o with
  | none => cases h
  | some a => exact ⟨a, rfl, h⟩
theorem dp_bl {K : Kx} {H : Hp} {v : V} {b : Bool} (h : Rp K H v (.bool b)) : v = .bl b := by cases h; rfl
theorem bOf_some {d : D} {b : Bool} (h : bOf d = some b) : d = .bool b := by
  cases d <;> simp [bOf] at h
  subst h
  rfl

/-! ### operators -/
theorem bin_q {r : R2} {f : D → D → Option D} {ga gb : Md D} (hr : r = rP2 (cxK X) f) {σ : L2.St} {H : Hp} {Q : VK} (q : tD (cxK X) (gBin f ga gb) σ H Q) : tOp r (tD (cxK X) ga) (tD (cxK X) gb) σ H Q := by
  subst hr
  obtain ⟨F, ρ, d, ρ', s, eg, k⟩ := q
  obtain ⟨⟨x, ρ1⟩, e1, eg⟩ := bind_some eg
  obtain ⟨⟨y, ρ2⟩, e2, eg⟩ := bind_some eg
  obtain ⟨z, e3, eg⟩ := bind_some eg
  cases eg
  exact ⟨F, ρ, x, ρ1, s, e1, fun v F1 H1 p1 s1 r1 => ⟨F1, ρ1, y, ρ2, s1, e2, fun u F2 H2 p2 s2 r2 => ⟨F2, x, y, _, s2.sub, dp_mono p2.ff _ _ r1, r2, e3, fun w F3 H3 gr rw' =>
    k w F3 H3 (p1.trans (p2.trans (gr.stp σ ρ2))) (s2.grow gr) rw'⟩⟩⟩
theorem de_bin {op : Operator} {f : D → D → Option D} {ga gb : Md D} (ho : OpR X (binaryOp op) (rP2 (cxK X) f)) (ha : DE X a ga) (hb : DE X b gb) : DE X (.BinOp a op b pos) (gBin f ga gb) :=
  pe_imp (pe_op ho ha hb) fun _ _ _ q => bin_q rfl q
theorem de_cmp {op : CmpOp} {f : D → D → Option D} {ga gb : Md D} (ho : OpR X (compareOp op) (rP2 (cxK X) f)) (ha : DE X a ga) (hb : DE X b gb) (hm : behindInMarks op b = false) : DE X (.Compare a [op] [b] pos) (gBin f ga gb) :=
  pe_imp (pe_cmpR ho ha hb hm) fun _ _ _ q => bin_q rfl q
theorem de_ix {f : D → D → Option D} {ga gb : Md D} (ho : IxR X (rP2 (cxK X) f)) (ha : DE X a ga) (hb : DE X b gb) (hs : PlainIx b) : DE X (.Subscript a b pos) (gBin f ga gb) :=
  pe_imp (pe_ix ho ha hb hs) fun _ _ _ q => bin_q rfl q
theorem de_un {op : UnaryOp} {f : D → Option D} {ga : Md D} (ho : UnR X (unaryOp op) (rP1 (cxK X) f)) (ha : DE X a ga) : DE X (.UnaryOp op a pos) (gUn f ga) :=
  pe_imp (pe_un ho ha) fun σ H Q q => by
    obtain ⟨F, ρ, d, ρ', s, eg, k⟩ := q
    obtain ⟨⟨x, ρ1⟩, e1, eg⟩ := bind_some eg
    obtain ⟨z, e3, eg⟩ := bind_some eg
    cases eg
    exact ⟨F, ρ, x, ρ1, s, e1, fun v F1 H1 p1 s1 r1 => ⟨F1, x, _, s1.sub, r1, e3, fun w F3 H3 gr rw' => k w F3 H3 (p1.trans (gr.stp σ ρ1)) (s1.grow gr) rw'⟩⟩
theorem tst_q {g : Md D} {σ : L2.St} {H : Hp} {Q : Bool → Hp → Prop} (q : tDT (cxK X) (gTst g) σ H Q) : tD (cxK X) g σ H (fun x H1 => ∃ k, x = .bl k ∧ Q k H1) := by
  obtain ⟨F, ρ, d, ρ', s, eg, k⟩ := q
  obtain ⟨⟨x, ρ1⟩, e1, eg⟩ := bind_some eg
  obtain ⟨z, e3, eg⟩ := bind_some eg
  cases eg
  refine ⟨F, ρ, x, _, s, e1, fun v F1 H1 p1 s1 r1 => ⟨d, ?_, k F1 H1 p1 s1⟩⟩
  have e : x = .bool d := bOf_some e3
  subst e
  exact dp_bl r1
theorem dt_cmp {op : CmpOp} {f : D → D → Option D} {ga gb : Md D} (ho : OpR X (compareOp op) (rP2 (cxK X) f)) (ha : DE X a ga) (hb : DE X b gb) (hm : behindInMarks op b = false) : DT X (.Compare a [op] [b] pos) (gTst (gBin f ga gb)) :=
  pt_imp (pt_cmpR ho ha hb hm) fun σ H Q q => bin_q rfl (tst_q q)
theorem chain_q {f f' : D → D → Option D} {ga gb gc : Md D} {σ : L2.St} {H : Hp} {Q : VK} (q : tD (cxK X) (gChain f f' ga gb gc) σ H Q) : tChain (rP2 (cxK X) f) (rP2 (cxK X) f') (tD (cxK X) ga) (tD (cxK X) gb) (tD (cxK X) gc) σ H Q := by
  obtain ⟨F, ρ, d, ρ', s, eg, k⟩ := q
  obtain ⟨⟨x, ρ1⟩, e1, eg⟩ := bind_some eg
  obtain ⟨⟨y, ρ2⟩, e2, eg⟩ := bind_some eg
  obtain ⟨z, e3, eg⟩ := bind_some eg
  obtain ⟨t, e4, eg4⟩ := bind_some eg
  clear eg
  have e5 : z = .bool t := bOf_some e4
  subst e5
  refine ⟨F, ρ, x, ρ1, s, e1, fun v F1 H1 p1 s1 r1 => ⟨F1, ρ1, y, ρ2, s1, e2, fun u F2 H2 p2 s2 r2 => ⟨F2, x, y, _, s2.sub, dp_mono p2.ff _ _ r1, r2, e3, fun w F3 H3 gr rw' => ⟨t, dp_bl rw', ?_⟩⟩⟩⟩
  have p3 := p1.trans (p2.trans (gr.stp σ ρ2))
  cases t with
  | true =>
    rw [if_pos rfl] at eg4 ⊢
    obtain ⟨⟨m, ρ3⟩, e6, eg5⟩ := bind_some eg4
    obtain ⟨n, e7, eg6⟩ := bind_some eg5
    cases eg6
    exact ⟨F3, ρ2, m, ρ3, s2.grow gr, e6, fun v4 F4 H4 p4 s4 r4 => ⟨F4, y, m, _, s4.sub, dp_mono (gr.ff.trans p4.ff) _ _ r2, r4, e7, fun v5 F5 H5 gr5 r5 =>
      k v5 F5 H5 (p3.trans (p4.trans (gr5.stp σ ρ3))) (s4.grow gr5) r5⟩⟩
  | false =>
    rw [if_neg Bool.false_ne_true] at eg4 ⊢
    cases eg4
    exact k (.bl false) F3 H3 p3 (s2.grow gr) (.bl false)
theorem de_chain {op op' : CmpOp} {f f' : D → D → Option D} {ga gb gc : Md D} (ho : OpR X (compareOp op) (rP2 (cxK X) f)) (ho' : OpR X (compareOp op') (rP2 (cxK X) f')) (ha : DE X a ga) (hb : DE X b gb) (hc : DE X c gc) (hm : lastMarks [op, op'] [b, c] = false := by with_unfolding_all rfl) : DE X (.Compare a [op, op'] [b, c] pos) (gChain f f' ga gb gc) :=
  pe_imp (pe_chain ho ho' ha hb hc hm) fun _ _ _ q => chain_q q
theorem dt_chain {op op' : CmpOp} {f f' : D → D → Option D} {ga gb gc : Md D} (ho : OpR X (compareOp op) (rP2 (cxK X) f)) (ho' : OpR X (compareOp op') (rP2 (cxK X) f')) (ha : DE X a ga) (hb : DE X b gb) (hc : DE X c gc) (hm : lastMarks [op, op'] [b, c] = false := by with_unfolding_all rfl) : DT X (.Compare a [op, op'] [b, c] pos) (gTst (gChain f f' ga gb gc)) :=
  pt_imp (pt_chain ho ho' ha hb hc hm) fun _ _ _ q => chain_q (tst_q q)

/-! ### and, or, not, if -/
theorem dt_and {ga gb : Md Bool} {rest : List Expr} (ha : DT X a ga) (hb : DW X (.BoolOp .And (b :: rest) pos) gb) : DW X (.BoolOp .And (a :: b :: rest) pos) (gAnd ga gb) :=
  pw_imp (pw_and ha hb) fun σ H Q q => by
    obtain ⟨F, ρ, d, ρ', s, eg, k⟩ := q
    obtain ⟨⟨x, ρ1⟩, e1, eg⟩ := bind_some eg
    refine ⟨F, ρ, x, ρ1, s, e1, fun F1 H1 p1 s1 => ?_⟩
    cases x with
    | true => exact ⟨F1, ρ1, d, ρ', s1, eg, fun F2 H2 p2 s2 => k F2 H2 (p1.trans p2) s2⟩
    | false =>
      cases eg
      exact k F1 H1 p1 s1
theorem dt_or {ga gb : Md Bool} {rest : List Expr} (ha : DT X a ga) (hb : DW X (.BoolOp .Or (b :: rest) pos) gb) : DW X (.BoolOp .Or (a :: b :: rest) pos) (gOr ga gb) :=
  pw_imp (pw_or ha hb) fun σ H Q q => by
    obtain ⟨F, ρ, d, ρ', s, eg, k⟩ := q
    obtain ⟨⟨x, ρ1⟩, e1, eg⟩ := bind_some eg
    refine ⟨F, ρ, x, ρ1, s, e1, fun F1 H1 p1 s1 => ?_⟩
    cases x with
    | false => exact ⟨F1, ρ1, d, ρ', s1, eg, fun F2 H2 p2 s2 => k F2 H2 (p1.trans p2) s2⟩
    | true =>
      cases eg
      exact k F1 H1 p1 s1
theorem dt_and1 {ga : Md Bool} (ha : DT X a ga) : DW X (.BoolOp .And [a] pos) ga := pw_and1 ha
theorem dt_or1 {ga : Md Bool} (ha : DT X a ga) : DW X (.BoolOp .Or [a] pos) ga := pw_or1 ha
theorem dt_bool {op : BoolOp} {ga : Md Bool} (h : DW X (.BoolOp op es pos) ga) : DT X (.BoolOp op es pos) ga := h.pt
theorem dt_not {ga : Md Bool} (ha : DT X a ga) : DT X (.UnaryOp .Not a pos) (gNot ga) :=
  pt_imp (pt_not ha) fun σ H Q q => by
    obtain ⟨F, ρ, d, ρ', s, eg, k⟩ := q
    obtain ⟨⟨x, ρ1⟩, e1, eg⟩ := bind_some eg
    cases eg
    exact ⟨F, ρ, x, _, s, e1, fun F1 H1 p1 s1 => k F1 H1 p1 s1⟩
/-- an expression that tells True or False, as a test -/
theorem dt_val {g : Md D} (h : DE X e g) (he : ∀ whole, isTrue e X.env whole = (do let v ← whole; standAt e.pos; holding [v] (truthy v)) := by intro _; rfl) : DT X e (gTst g) :=
  pt_imp (pt_val h he) fun σ H Q q => tst_q q
theorem de_and {ga gb : Md D} {rest : List Expr} (ha : DE X a ga) (hb : DE X (.BoolOp .And (b :: rest) pos) gb) : DE X (.BoolOp .And (a :: b :: rest) pos) (gAndV ga gb) :=
  pe_imp (pe_and ha hb) fun σ H Q q => by
    obtain ⟨F, ρ, d, ρ', s, eg, k⟩ := q
    obtain ⟨⟨x, ρ1⟩, e1, eg⟩ := bind_some eg
    obtain ⟨z, e3, eg⟩ := bind_some eg
    have e5 := bOf_some e3
    refine ⟨F, ρ, x, ρ1, s, e1, fun v F1 H1 p1 s1 r1 => ⟨z, by subst e5; exact dp_bl r1, ?_⟩⟩
    cases z with
    | true => exact ⟨F1, ρ1, d, ρ', s1, eg, fun u F2 H2 p2 s2 => k u F2 H2 (p1.trans p2) s2⟩
    | false =>
      cases eg
      exact k _ F1 H1 p1 s1 (.bl false)
theorem de_or {ga gb : Md D} {rest : List Expr} (ha : DE X a ga) (hb : DE X (.BoolOp .Or (b :: rest) pos) gb) : DE X (.BoolOp .Or (a :: b :: rest) pos) (gOrV ga gb) :=
  pe_imp (pe_or ha hb) fun σ H Q q => by
    obtain ⟨F, ρ, d, ρ', s, eg, k⟩ := q
    obtain ⟨⟨x, ρ1⟩, e1, eg⟩ := bind_some eg
    obtain ⟨z, e3, eg⟩ := bind_some eg
    have e5 := bOf_some e3
    refine ⟨F, ρ, x, ρ1, s, e1, fun v F1 H1 p1 s1 r1 => ⟨z, by subst e5; exact dp_bl r1, ?_⟩⟩
    cases z with
    | false => exact ⟨F1, ρ1, d, ρ', s1, eg, fun u F2 H2 p2 s2 => k u F2 H2 (p1.trans p2) s2⟩
    | true =>
      cases eg
      exact k _ F1 H1 p1 s1 (.bl true)
theorem de_one {op : BoolOp} {ga : Md D} (h : DE X a ga) : DE X (.BoolOp op [a] pos) ga := pe_one h
theorem de_not {ga : Md D} (ha : DE X a ga) : DE X (.UnaryOp .Not a pos) (gNotV ga) :=
  pe_imp (pe_not ha) fun σ H Q q => by
    obtain ⟨F, ρ, d, ρ', s, eg, k⟩ := q
    obtain ⟨⟨x, ρ1⟩, e1, eg⟩ := bind_some eg
    obtain ⟨z, e3, eg⟩ := bind_some eg
    have e5 := bOf_some e3
    cases eg
    exact ⟨F, ρ, x, _, s, e1, fun v F1 H1 p1 s1 r1 => ⟨z, by subst e5; exact dp_bl r1, k _ F1 H1 p1 s1 (.bl _)⟩⟩
theorem de_ifE {gc : Md Bool} {ga gb : Md D} (hc : DT X c gc) (ha : DE X a ga) (hb : DE X b gb) : DE X (.IfExp c a b pos) (gIfE gc ga gb) :=
  pe_imp (pe_ifExp hc ha hb) fun σ H Q q => by
    obtain ⟨F, ρ, d, ρ', s, eg, k⟩ := q
    obtain ⟨⟨x, ρ1⟩, e1, eg⟩ := bind_some eg
    refine ⟨F, ρ, x, ρ1, s, e1, fun F1 H1 p1 s1 => ?_⟩
    cases x with
    | true => exact ⟨F1, ρ1, d, ρ', s1, eg, fun u F2 H2 p2 s2 => k u F2 H2 (p1.trans p2) s2⟩
    | false => exact ⟨F1, ρ1, d, ρ', s1, eg, fun u F2 H2 p2 s2 => k u F2 H2 (p1.trans p2) s2⟩

/-! ### argument lists, displays, calls -/
theorem da_nl : DA X [] gNil := pa_imp pa_nil fun σ H Q q => by
  obtain ⟨F, ρ, d, ρ', s, eg, k⟩ := q
  cases eg
  exact k [] F H Stp.refl s .nil
theorem da_cs {g : Md D} {gs : Md (List D)} (ha : DE X e g) (hr : DA X es gs) (hs : starEach (e :: es) X.env = (false, eval e X.env) :: starEach es X.env := by rfl) : DA X (e :: es) (gCons g gs) :=
  pa_imp (pa_cons ha hr hs) fun σ H Q q => by
    obtain ⟨F, ρ, d, ρ', s, eg, k⟩ := q
    obtain ⟨⟨x, ρ1⟩, e1, eg⟩ := bind_some eg
    obtain ⟨⟨y, ρ2⟩, e2, eg⟩ := bind_some eg
    cases eg
    exact ⟨F, ρ, x, ρ1, s, e1, fun v F1 H1 p1 s1 r1 => ⟨F1, ρ1, y, _, s1, e2, fun u F2 H2 p2 s2 r2 => k (v :: u) F2 H2 (p1.trans p2) s2 (.cons (dp_mono p2.ff _ _ r1) r2)⟩⟩
def mkTup (ds : List D) : Option D := if ds.length ≤ 16777216 then some (.tuple ds) else none
def mkLst (ds : List D) : Option D := if ds.length ≤ 16777216 then some (.list ds) else none
theorem line_eq : sizeLine = 16777216 := sizeLine_eq
theorem de_tup {gs : Md (List D)} {k : Nat} (h : DA X es gs) : DE X (.Tuple es k pos) (gApp mkTup gs) :=
  pe_imp (pe_tup h) fun σ H Q q => by
    obtain ⟨F, ρ, d, ρ', s, eg, k⟩ := q
    obtain ⟨⟨x, ρ1⟩, e1, eg⟩ := bind_some eg
    obtain ⟨z, e3, eg⟩ := bind_some eg
    cases eg
    unfold mkTup at e3
    split at e3
    · rename_i hl
      cases e3
      refine ⟨F, ρ, x, ρ1, s, e1, fun vs F1 H1 p1 s1 r1 => ⟨by rw [line_eq, da_len r1]; exact hl, fun p hp => ?_⟩⟩
      have gr : Grow F1 H1 (upd F1 p (.tup vs)) (upd H1 p (.tup vs)) := Grow.val s1.sub hp
      exact k _ _ _ (p1.trans (gr.stp σ ρ1)) (s1.grow gr) (.tup (.inl (.inl upd_same)) (dpAll_mono gr.ff _ _ r1))
    · cases e3
theorem own_new {K : Kx} {F H : Hp} {p : Addr} {vs : List V} {ds : List D} (s : Same F H) (hp : H p = none) (r : RpAll K F vs ds) : OwnAt K F (upd H p (.lst vs)) p (.list ds) := ⟨none_sub s hp, .inl ⟨vs, ds, rfl, upd_same, r⟩⟩
theorem not_owns {K : Kx} {F H : Hp} {σ : L2.St} {ρ : Env} {p : Addr} (s : St K F H σ ρ) (hp : H p = none) : ¬ Owns σ ρ p := fun z => by
  obtain ⟨_, u, e⟩ := s.free z
  rw [hp] at e
  cases e
theorem df_lst {gs : Md (List D)} (h : DA X es gs) : DF X (.List es pos) (gApp mkLst gs) :=
  pe_imp (pe_lst h) fun σ H Q q => by
    obtain ⟨F, ρ, d, ρ', s, eg, k⟩ := q
    obtain ⟨⟨x, ρ1⟩, e1, eg⟩ := bind_some eg
    obtain ⟨z, e3, eg⟩ := bind_some eg
    cases eg
    unfold mkLst at e3
    split at e3
    · rename_i hl
      cases e3
      refine ⟨F, ρ, x, ρ1, s, e1, fun vs F1 H1 p1 s1 r1 => ⟨by rw [line_eq, da_len r1]; exact hl, fun p hp => ?_⟩⟩
      have gr : Grow F1 H1 F1 (upd H1 p (.lst vs)) := Grow.own s1.sub hp
      exact k p _ _ (p1.trans (gr.stp σ ρ1)) (s1.grow gr) (own_new s1.sub hp r1) (not_owns s1 hp) (p1.none hp)
    · cases e3
end
end Dn
set_option maxHeartbeats 2000000
/-! a < b of data whose first places that differ can be compared -/
namespace DnLt
open PySem PySem.SeqAt PyProof.Rows
open AutoSeq1 (wpAny_loadPart')
open MeetsSeq MeetsSeq2 MeetsSeq3 SeqRoads2

def LtAt (A : Around) (s : Shared) : List Value → List Value → Bool → Prop
  | [], [], k => k = false
  | [], _ :: _, k => k = true
  | _ :: _, [], k => k = false
  | v :: vs, w :: ws, k => (EqAt A s v w true ∧ LtAt A s vs ws k) ∨ (EqAt A s v w false ∧ RcLt A s v w k)
theorem ltAt_end {A : Around} {s : Shared} {vs ws : List Value} {k : Bool} (h : LtAt A s vs ws k) (e : vs.zip ws = []) : k = decide (vs.length < ws.length) := by
  cases vs with
  | nil =>
    cases ws with
    | nil => exact h
    | cons w ws =>
      have h1 : k = true := h
      rw [h1]
      exact (decide_eq_true (Nat.succ_pos _)).symm
  | cons v vs =>
    cases ws with
    | nil =>
      have h1 : k = false := h
      rw [h1]
      exact (decide_eq_false (Nat.not_lt_zero _)).symm
    | cons w ws => cases e

theorem tup_meets (l b : Addr) (xs ys : Array Value) (n n2 : Nat) (dd dd2 : Option Addr) (sl sl2 : Array (Option Value)) (k : Bool) :
    Meets (Builtin.«tuple.__lt__» ⟨[.ref l, .ref b], []⟩)
      (fun A R s => (s.heap.get? l = some { cls := .type "tuple", dict := dd, data := .seq xs n, slots := sl } ∧ s.heap.get? b = some { cls := .type "tuple", dict := dd2, data := .seq ys n2, slots := sl2 }) ∧
        LtAt A.in1 s xs.toList ys.toList k ∧ R (.ok (.ret (.bool k))) s) :=
  .of_wp fun prog w A R s h => by
    obtain ⟨hp, gn, dw, tk, os⟩ := s
    obtain ⟨⟨hl, hb⟩, hk, hR⟩ := h
    have f2 := AutoSeq1.sub_tuple_tuple
    wp_walk using wpAny_loadPart' hl, wpAny_loadPart' hb, wpAny_forIn_list _ (fun rest q s' => q.1 = none ∧ s' = ⟨hp, gn, dw, tk, os⟩ ∧ ∃ vs ws, rest = vs.zip ws ∧ LtAt A.in1 ⟨hp, gn, dw, tk, os⟩ vs ws k ∧
      decide (vs.length < ws.length) = decide (xs.size < ys.size)) _
    case turn =>
      rintro ⟨y, x⟩ rest q s' ⟨hq, rfl, vs, ws, hz, hk2, hs⟩
      cases vs with
      | nil => cases hz
      | cons v vs =>
        cases ws with
        | nil => cases hz
        | cons u ws =>
          rw [List.zip_cons_cons] at hz
          injection hz with h1 h2
          injection h1 with h3 h4
          subst h3 h4 h2
          have hs2 : decide (vs.length < ws.length) = decide (xs.size < ys.size) := by
            rw [← hs]
            simp
          rcases hk2 with ⟨e1, e2⟩ | ⟨e1, e2⟩
          · refine wpAny_bind (e1 prog w _ _ ?_)
            wp_walk
            exact ⟨rfl, rfl, vs, ws, rfl, e2, hs2⟩
          · refine wpAny_bind (e1 prog w _ _ ?_)
            have e3 := e2 prog w
            generalize PySem.richCompare = rc at e3 ⊢
            wp_walk
            refine e3 _ _ ?_
            wp_walk
            exact ⟨_, rfl, hR⟩
    case fin =>
      rintro ⟨q1, q2⟩ s' ⟨hq, rfl, vs, ws, hz, hk2, hs⟩
      simp only at hq
      subst hq
      have e := ltAt_end hk2 hz.symm
      rw [hs] at e
      wp_walk
      refine ⟨_, rfl, ?_⟩
      rw [e] at hR
      simpa [Builtin.Tuple.tupleCompareSizes] using hR
    case h =>
      exact ⟨rfl, rfl, xs.toList, ys.toList, by simp, hk, by simp⟩

theorem tup_lt {A : Around} {s : Shared} {l b : Addr} {xs ys : Array Value} {k : Bool} (hl : s.heap.IsTuple l xs) (hb : s.heap.IsTuple b ys) (hu : A.units < cLine) (h : LtAt A.in1 s xs.toList ys.toList k) : RcLt A s (.ref l) (.ref b) k := fun prog w E Q q => by
  obtain ⟨⟨c1, d1, a1, s1⟩, ho, hc, n, hd⟩ := id hl
  obtain ⟨⟨c2, d2, a2, s2⟩, ho2, hc2, n2, hd2⟩ := id hb
  simp only at hc hd hc2 hd2
  subst hc hd hc2 hd2
  refine richCompare_meets_room (op := .Lt) ⟨_, ho, rfl⟩ ⟨_, ho2, rfl⟩ F.slot_tuple_lt F.entry_tuple_lt (F.args_tuple_lt_2 _ _) (tup_meets l b xs ys n n2 d1 d2 s1 s2 k) ⟨⟨ho, ho2⟩, h, ?_⟩ hu
  exact (⟨(fun x => nomatch x), q⟩ : Value.bool k ≠ Value.notImplemented ∧ Q (.bool k) s)

mutual
/-- x < y, where it can be said -/
def ltB : PyData → PyData → Option Bool
  | .int a, .int b => some (decide (a < b))
  | .str a, .str b => some (decide (a.cps.toList < b.cps.toList))
  | .bool a, .bool b => some (!a && b)
  | .tuple xs, .tuple ys => ltA xs ys
  | _, _ => none
def ltA : List PyData → List PyData → Option Bool
  | [], [] => some false
  | [], _ :: _ => some true
  | _ :: _, [] => some false
  | x :: xs, y :: ys => if PyData.eqv x y = true then ltA xs ys else ltB x y
end
theorem units_in1 (A : Around) : A.in1.units = A.units + 1 := rfl
mutual
theorem rc_lt : ∀ (x y : PyData) (A : Around) (s : Shared) (a b : Value) (as bs : List Addr) (k : Bool), Reads s.heap a x as → Reads s.heap b y bs → ltB x y = some k → x.canLay0 = true → y.canLay0 = true → A.units + x.depth < cLine → RcLt A s a b k
  | .int i, y, A, s, a, b, as, bs, k, ra, rb, h, _, _, _ => by
    cases y <;> simp only [ltB, reduceCtorEq, Option.some.injEq] at h
    cases ra
    cases rb
    intro prog w E Q q
    rw [← h] at q
    exact lt_int q
  | .str i, y, A, s, a, b, as, bs, k, ra, rb, h, _, _, _ => by
    cases y <;> simp only [ltB, reduceCtorEq, Option.some.injEq] at h
    cases ra
    cases rb
    intro prog w E Q q
    rw [← h] at q
    exact lt_str q
  | .bool i, .bool j, A, s, a, b, as, bs, k, ra, rb, h, _, _, _ => by
    simp only [ltB, Option.some.injEq] at h
    cases ra
    cases rb
    intro prog w E Q q
    rw [← h] at q
    have e : (!i && j) = decide ((if i then (1 : Int) else 0) < (if j then 1 else 0)) := by cases i <;> cases j <;> rfl
    rw [e] at q
    exact lt_bool q
  | .bool _, .none, _, _, _, _, _, _, _, _, _, h, _, _, _ => by simp [ltB] at h
  | .bool _, .int _, _, _, _, _, _, _, _, _, _, h, _, _, _ => by simp [ltB] at h
  | .bool _, .str _, _, _, _, _, _, _, _, _, _, h, _, _, _ => by simp [ltB] at h
  | .bool _, .list _, _, _, _, _, _, _, _, _, _, h, _, _, _ => by simp [ltB] at h
  | .bool _, .tuple _, _, _, _, _, _, _, _, _, _, h, _, _, _ => by simp [ltB] at h
  | .bool _, .dict _, _, _, _, _, _, _, _, _, _, h, _, _, _ => by simp [ltB] at h
  | .tuple xs, y, A, s, a, b, as, bs, k, ra, rb, h, c1, c2, hu => by
    cases y <;> simp [ltB] at h
    rename_i ys
    cases ra with
    | tuple k1 k2 k3 k4 =>
      cases rb with
      | tuple m1 m2 m3 m4 =>
        have hd : A.units + (PyData.depthAll xs + 1) < cLine := by simpa [PyData.depth] using hu
        exact tup_lt ⟨_, k1, k2, _, k3⟩ ⟨_, m1, m2, _, m3⟩ (by omega) (rc_ltA xs ys A.in1 s _ _ _ _ k k4 m4 h (by simpa [PyData.canLay0] using c1) (by simpa [PyData.canLay0] using c2) (by rw [units_in1]; omega))
  | .none, y, _, _, _, _, _, _, _, _, _, h, _, _, _ => by cases y <;> simp [ltB] at h
  | .list _, y, _, _, _, _, _, _, _, _, _, h, _, _, _ => by cases y <;> simp [ltB] at h
  | .dict _, y, _, _, _, _, _, _, _, _, _, h, _, _, _ => by cases y <;> simp [ltB] at h
theorem rc_ltA : ∀ (xs ys : List PyData) (A : Around) (s : Shared) (vs ws : List Value) (as bs : List Addr) (k : Bool), ReadsAll s.heap vs xs as → ReadsAll s.heap ws ys bs → ltA xs ys = some k → PyData.canLayAll0 xs = true → PyData.canLayAll0 ys = true →
    A.units + PyData.depthAll xs < cLine → LtAt A s vs ws k
  | [], [], A, s, _, _, _, _, k, ra, rb, h, _, _, _ => by
    cases ra
    cases rb
    simp only [ltA, Option.some.injEq] at h
    exact (show k = false from h.symm)
  | [], _ :: _, A, s, _, _, _, _, k, ra, rb, h, _, _, _ => by
    cases ra
    cases rb
    simp only [ltA, Option.some.injEq] at h
    exact (show k = true from h.symm)
  | _ :: _, [], A, s, _, _, _, _, k, ra, rb, h, _, _, _ => by
    cases ra
    cases rb
    simp only [ltA, Option.some.injEq] at h
    exact (show k = false from h.symm)
  | x :: xs, y :: ys, A, s, _, _, _, _, k, ra, rb, h, c1, c2, hu => by
    have d1 : x.canLay0 = true ∧ PyData.canLayAll0 xs = true := by simpa [PyData.canLayAll0] using c1
    have d2 : y.canLay0 = true ∧ PyData.canLayAll0 ys = true := by simpa [PyData.canLayAll0] using c2
    have hd : A.units + max x.depth (PyData.depthAll xs) < cLine := by simpa [PyData.depthAll] using hu
    cases ra with
    | cons r rs =>
      cases rb with
      | cons t ts =>
        have e := eqAt_reads x y A s _ _ _ _ r t d1.1 d2.1 (by omega)
        rw [ltA] at h
        by_cases q : PyData.eqv x y = true
        · rw [if_pos q] at h
          rw [q] at e
          exact .inl ⟨e, rc_ltA xs ys A s _ _ _ _ k rs ts h d1.2 d2.2 (by omega)⟩
        · rw [if_neg q] at h
          have q' : PyData.eqv x y = false := by simpa using q
          rw [q'] at e
          exact .inr ⟨e, rc_lt x y A s _ _ _ _ k r t h d1.1 d2.1 (by omega)⟩
end
end DnLt
set_option maxHeartbeats 2000000
/-! operators and built-ins over data -/
namespace Dn
open PySem PySem.Spec PyProof.Rows L2

def big (n : Nat) : Bool := decide (n ≤ 16777216)
def addD : D → D → Option D
  | .int i, .int j => some (.int (i + j))
  | .str a, .str b => if a.length + b.length ≤ 16777216 then some (.str (a ++ b)) else none
  | .list a, .list b => if a.length + b.length ≤ 16777216 then some (.list (a ++ b)) else none
  | .tuple a, .tuple b => if a.length + b.length ≤ 16777216 then some (.tuple (a ++ b)) else none
  | _, _ => none
def subD : D → D → Option D
  | .int i, .int j => some (.int (i - j))
  | _, _ => none
def mulD : D → D → Option D
  | .int i, .int j => if i.natAbs.log2 + j.natAbs.log2 < 1000000 then some (.int (i * j)) else none
  | _, _ => none
/-- a product with a factor of less than 64 bits -/
def mulS : D → D → Option D
  | .int i, .int j => if -(2 ^ 64) < j ∧ j < 2 ^ 64 then some (.int (i * j)) else none
  | _, _ => none
def modD : D → D → Option D
  | .int i, .int j => if 0 < j then some (.int (i % j)) else none
  | _, _ => none
def fdivD : D → D → Option D
  | .int i, .int j => if 0 < j ∧ j < 18446744073709551616 then some (.int (i / j)) else none
  | _, _ => none
def negD : D → Option D
  | .int i => some (.int (-i))
  | _ => none
/-- the same, as Python's == says it -/
def eqT (d e : D) : Option Bool := match d, e with
  | .int a, .int b => some (decide (a = b))
  | .str a, .str b => some (decide (a = b))
  | .bool a, .bool b => some (decide (a = b))
  | .none, .none => some true
  | d, e => if SeqAt.shaped d = true ∧ SeqAt.shaped e = true then some (PyData.eqv d e) else none
def eqD (d e : D) : Option D := (eqT d e).bind fun b => some (.bool b)
def neD (d e : D) : Option D := (eqT d e).bind fun b => some (.bool (!b))
def ltT (d e : D) : Option Bool := match d, e with
  | .int a, .int b => some (decide (a < b))
  | .str a, .str b => some (decide (a.cps.toList < b.cps.toList))
  | d, e => if SeqAt.shaped d = true ∧ SeqAt.shaped e = true then DnLt.ltB d e else none
def ltD (d e : D) : Option D := (ltT d e).bind fun b => some (.bool b)
def leD : D → D → Option D
  | .int a, .int b => some (.bool (decide (a ≤ b)))
  | _, _ => none
def gtD : D → D → Option D
  | .int a, .int b => some (.bool (decide (b < a)))
  | _, _ => none
def geD : D → D → Option D
  | .int a, .int b => some (.bool (decide (b ≤ a)))
  | _, _ => none
def isN : D → Bool
  | .none => true
  | _ => false
def isD (d e : D) : Option D := match d, e with
  | d, .none => some (.bool (isN d))
  | .bool a, .bool b => some (.bool (decide (a = b)))
  | _, _ => none
def isntD (d e : D) : Option D := match d, e with
  | d, .none => some (.bool (!isN d))
  | .bool a, .bool b => some (.bool (!decide (a = b)))
  | _, _ => none

section
variable {X : Cx}
theorem r2_int {f : D → D → Option D} {x y : V} {H : Hp} {Q : VK} (h : rP2 (cxK X) f x y H Q) {i j : Int} (hx : x = .int i) (hy : y = .int j) {v : V} {r : D} (e : f (.int i) (.int j) = some r) (hv : ∀ F, Rp (cxK X) F v r) : Q v H := by
  subst hx hy
  obtain ⟨F, d, e', r', s, hd, he, ef, k⟩ := h
  cases hd
  cases he
  rw [e] at ef
  cases ef
  exact k v F H (Grow.refl s) (hv F)
theorem dp_ii {K : Kx} {F : Hp} {x y : V} {i j : Int} (hx : Rp K F x (.int i)) (hy : Rp K F y (.int j)) : x = .int i ∧ y = .int j := by
  cases hx
  cases hy
  exact ⟨rfl, rfl⟩
theorem op_addD : OpR X (binaryOp .Add) (rP2 (cxK X) addD) := by
  intro pins s σ H x y v u Q I rx ry h
  obtain ⟨F, d, e, r, sf, hd, he, ef, k⟩ := h
  unfold addD at ef
  split at ef
  · cases ef
    cases hd
    cases he
    exact op_add pins s σ H _ _ v u Q I rx ry ⟨_, _, rfl, rfl, k _ F H (Grow.refl sf) (.int _)⟩
  · split at ef
    · rename_i hl
      cases ef
      cases hd
      cases he
      exact op_add_str pins s σ H _ _ v u Q I rx ry ⟨_, _, rfl, rfl, by rw [line_eq]; exact hl, k _ F H (Grow.refl sf) (.str _)⟩
    · cases ef
  · split at ef
    · rename_i as bs hl
      cases ef
      cases hd with
      | lst h1 d1 =>
        cases he with
        | lst h2 d2 =>
          cases rx
          cases ry
          rename_i l xs b ys
          obtain ⟨its, r1, p1, z1⟩ := I.list (sf.seq h1)
          obtain ⟨its2, r2, p2, z2⟩ := I.list (sf.seq h2)
          obtain ⟨o1, n1, g1, c1, q1, t1⟩ := p1
          obtain ⟨o2, n2, g2, c2, q2, t2⟩ := p2
          obtain ⟨cls, dd, data, sl⟩ := o1
          obtain ⟨cls2, dd2, data2, sl2⟩ := o2
          simp only at c1 q1 t1 c2 q2 t2
          subst c1 q1 t1 c2 q2 t2
          have hsz : xs.length + ys.length ≤ sizeLine := by rw [line_eq, da_len d1, da_len d2]; exact hl
          refine concat_meets ⟨_, g1, rfl⟩ ⟨_, g2, rfl⟩ noFill_list_add seq_list_add PySem.F.slot_list_add PySem.F.entry_list_add (PySem.F.args_list_add_2 _ _)
            (list_addW l b its.toArray its2.toArray n1 n2 none none sl sl2 (by simpa [← r1.length, ← r2.length] using hsz)) ⟨g1, g2, ?_⟩
          have ea : its.toArray ++ its2.toArray = (its ++ its2).toArray := by simp
          rw [ea]
          have gr : Grow F H (upd F s.heap.objs.size (.lst (xs ++ ys))) (upd H s.heap.objs.size (.lst (xs ++ ys))) := Grow.val sf I.fresh
          exact ⟨.ref _, _, I.lnew (t' := s.toks) (r1.append r2) (by rw [List.length_append]; exact hsz), rfl, k _ _ _ gr (.lst (.inl (.inl upd_same)) (dpAll_mono gr.ff _ _ (da_app d1 d2)))⟩
    · cases ef
  · split at ef
    · rename_i as bs hl
      cases ef
      cases hd with
      | tup h1 d1 =>
        cases he with
        | tup h2 d2 =>
          rename_i a xs b ys
          have hsz : xs.length + ys.length ≤ sizeLine := by rw [line_eq, da_len d1, da_len d2]; exact hl
          refine op_catA pins s σ H _ _ v u Q I rx ry ⟨a, b, xs, ys, rfl, rfl, seqT_same sf h1, seqT_same sf h2, hsz, fun e => ?_, fun _ e => ?_, fun _ _ p hp => ?_⟩
          · subst e
            cases d1
            exact k _ F H (Grow.refl sf) (.tup h2 d2)
          · subst e
            cases d2
            rw [List.append_nil] at k
            exact k _ F H (Grow.refl sf) (.tup h1 d1)
          · have gr : Grow F H (upd F p (.tup (xs ++ ys))) (upd H p (.tup (xs ++ ys))) := Grow.val sf hp
            exact k _ _ _ gr (.tup (.inl (.inl upd_same)) (dpAll_mono gr.ff _ _ (da_app d1 d2)))
    · cases ef
  · cases ef
theorem op_subD : OpR X (binaryOp .Sub) (rP2 (cxK X) subD) := by
  intro pins s σ H x y v u Q I rx ry h
  obtain ⟨F, d, e, r, sf, hd, he, ef, k⟩ := h
  unfold subD at ef
  split at ef
  · cases ef
    cases hd
    cases he
    exact op_sub pins s σ H _ _ v u Q I rx ry ⟨_, _, rfl, rfl, k _ F H (Grow.refl sf) (.int _)⟩
  · cases ef
theorem op_mulD : OpR X (binaryOp .Mult) (rP2 (cxK X) mulD) := by
  intro pins s σ H x y v u Q I rx ry h
  obtain ⟨F, d, e, r, sf, hd, he, ef, k⟩ := h
  unfold mulD at ef
  split at ef
  · split at ef
    · rename_i hl
      cases ef
      cases hd
      cases he
      exact op_mulW pins s σ H _ _ v u Q I rx ry ⟨_, _, rfl, rfl, hl, k _ F H (Grow.refl sf) (.int _)⟩
    · cases ef
  · cases ef
theorem op_mulS : OpR X (binaryOp .Mult) (rP2 (cxK X) mulS) := by
  intro pins s σ H x y v u Q I rx ry h
  obtain ⟨F, d, e, r, sf, hd, he, ef, k⟩ := h
  unfold mulS at ef
  split at ef
  · split at ef
    · rename_i hl
      cases ef
      cases hd
      cases he
      exact op_mul pins s σ H _ _ v u Q I rx ry ⟨_, _, rfl, rfl, .inr hl, k _ F H (Grow.refl sf) (.int _)⟩
    · cases ef
  · cases ef
theorem op_modD : OpR X (binaryOp .Mod) (rP2 (cxK X) modD) := by
  intro pins s σ H x y v u Q I rx ry h
  obtain ⟨F, d, e, r, sf, hd, he, ef, k⟩ := h
  unfold modD at ef
  split at ef
  · split at ef
    · rename_i hl
      cases ef
      cases hd
      cases he
      exact op_mod pins s σ H _ _ v u Q I rx ry ⟨_, _, rfl, rfl, hl, k _ F H (Grow.refl sf) (.int _)⟩
    · cases ef
  · cases ef
theorem log_64 {j : Int} (h0 : 0 < j) (h : j < 18446744073709551616) : j.natAbs.log2 < 9000 := by
  have z : j.natAbs ≠ 0 := by omega
  have h1 : j.natAbs < 2 ^ 64 := by omega
  exact Nat.lt_of_lt_of_le ((Nat.log2_lt z).mpr h1) (by decide)
theorem op_fdivD : OpR X (binaryOp .FloorDiv) (rP2 (cxK X) fdivD) := by
  intro pins s σ H x y v u Q I rx ry h
  obtain ⟨F, d, e, r, sf, hd, he, ef, k⟩ := h
  unfold fdivD at ef
  split at ef
  · split at ef
    · rename_i hl
      cases ef
      cases hd
      cases he
      exact op_fdivW pins s σ H _ _ v u Q I rx ry ⟨_, _, rfl, rfl, ⟨hl.1, log_64 hl.1 hl.2⟩, k _ F H (Grow.refl sf) (.int _)⟩
    · cases ef
  · cases ef
theorem un_negD : UnR X (unaryOp .USub) (rP1 (cxK X) negD) := by
  intro pins s σ H x v Q I rx h
  obtain ⟨F, d, r, sf, hd, ef, k⟩ := h
  unfold negD at ef
  split at ef
  · cases ef
    cases hd
    exact un_neg pins s σ H _ v Q I rx ⟨_, rfl, k _ F H (Grow.refl sf) (.int _)⟩
  · cases ef
theorem op_eqD' (hu : X.A.units + 64 < cLine) : OpR X (compareOp .Eq) (rP2 (cxK X) eqD) := by
  intro pins s σ H x y v u Q I rx ry h
  obtain ⟨F, d, e, r, sf, hd, he, ef, k⟩ := h
  obtain ⟨b, e1, e2⟩ := bind_some ef
  cases e2
  have q := k (.bl b) F H (Grow.refl sf) (.bl _)
  unfold eqT at e1
  split at e1
  · cases e1
    cases hd
    cases he
    refine op_eq pins s σ H _ _ v u Q I rx ry ⟨rfl, ?_⟩
    rw [dec_int, Bool.beq_eq_decide_eq]
    exact q
  · cases e1
    cases hd
    cases he
    refine op_eq pins s σ H _ _ v u Q I rx ry ⟨rfl, ?_⟩
    rw [dec_str, Bool.beq_eq_decide_eq]
    exact q
  · cases e1
    cases hd
    cases he
    refine op_eq pins s σ H _ _ v u Q I rx ry ⟨rfl, ?_⟩
    rw [dec_bl, Bool.beq_eq_decide_eq]
    exact q
  · cases e1
    cases hd
    cases he
    exact op_eq pins s σ H _ _ v u Q I rx ry ⟨rfl, q⟩
  · split at e1
    · rename_i hs
      cases e1
      exact op_eqD hu pins s σ H _ _ v u Q I rx ry ⟨d, e, rp_dp (dp_mono sf _ _ hd) (SeqAt.canLay_of_shaped hs.1), rp_dp (dp_mono sf _ _ he) (SeqAt.canLay_of_shaped hs.2), hs.1, hs.2, q⟩
    · cases e1
theorem op_neD' (hu : X.A.units + 64 < cLine) : OpR X (compareOp .NotEq) (rP2 (cxK X) neD) := by
  intro pins s σ H x y v u Q I rx ry h
  obtain ⟨F, d, e, r, sf, hd, he, ef, k⟩ := h
  obtain ⟨b, e1, e2⟩ := bind_some ef
  cases e2
  have q := k (.bl (!b)) F H (Grow.refl sf) (.bl _)
  unfold eqT at e1
  split at e1
  · cases e1
    cases hd
    cases he
    refine op_ne pins s σ H _ _ v u Q I rx ry ⟨rfl, ?_⟩
    rw [dec_int, Bool.beq_eq_decide_eq]
    exact q
  · cases e1
    cases hd
    cases he
    refine op_ne pins s σ H _ _ v u Q I rx ry ⟨rfl, ?_⟩
    rw [dec_str, Bool.beq_eq_decide_eq]
    exact q
  · cases e1
    cases hd
    cases he
    refine op_ne pins s σ H _ _ v u Q I rx ry ⟨rfl, ?_⟩
    rw [dec_bl, Bool.beq_eq_decide_eq]
    exact q
  · cases e1
    cases hd
    cases he
    exact op_ne pins s σ H _ _ v u Q I rx ry ⟨rfl, q⟩
  · split at e1
    · rename_i hs
      cases e1
      exact op_neD hu pins s σ H _ _ v u Q I rx ry ⟨d, e, rp_dp (dp_mono sf _ _ hd) (SeqAt.canLay_of_shaped hs.1), rp_dp (dp_mono sf _ _ he) (SeqAt.canLay_of_shaped hs.2), hs.1, hs.2, q⟩
    · cases e1
theorem op_ltD (hu : X.A.units + 64 < cLine) : OpR X (compareOp .Lt) (rP2 (cxK X) ltD) := by
  intro pins s σ H x y v u Q I rx ry h
  obtain ⟨F, d, e, r, sf, hd, he, ef, k⟩ := h
  obtain ⟨b, e1, e2⟩ := bind_some ef
  cases e2
  have q := k (.bl b) F H (Grow.refl sf) (.bl _)
  unfold ltT at e1
  split at e1
  · cases e1
    cases hd
    cases he
    exact op_lt pins s σ H _ _ v u Q I rx ry ⟨_, _, rfl, rfl, q⟩
  · cases e1
    cases hd
    cases he
    exact op_lt_str pins s σ H _ _ v u Q I rx ry ⟨_, _, rfl, rfl, q⟩
  · split at e1
    · rename_i hs
      obtain ⟨as, r1⟩ := Dp.reads I d x v (rp_dp (dp_mono sf _ _ hd) (SeqAt.canLay_of_shaped hs.1)) rx
      obtain ⟨bs, r2⟩ := Dp.reads I e y u (rp_dp (dp_mono sf _ _ he) (SeqAt.canLay_of_shaped hs.2)) ry
      have hdp := SeqAt.depth_of_shaped hs.1
      exact DnLt.rc_lt d e X.A s v u as bs b r1 r2 e1 (SeqAt.canLay_of_shaped hs.1) (SeqAt.canLay_of_shaped hs.2) (by omega) X.prog X.w _ _ ⟨.bl b, H, I, rfl, q⟩
    · cases e1
theorem op_leD : OpR X (compareOp .LtE) (rP2 (cxK X) leD) := by
  intro pins s σ H x y v u Q I rx ry h
  obtain ⟨F, d, e, r, sf, hd, he, ef, k⟩ := h
  unfold leD at ef
  split at ef
  · cases ef
    cases hd
    cases he
    exact op_le pins s σ H _ _ v u Q I rx ry ⟨_, _, rfl, rfl, k _ F H (Grow.refl sf) (.bl _)⟩
  · cases ef
theorem op_gtD : OpR X (compareOp .Gt) (rP2 (cxK X) gtD) := by
  intro pins s σ H x y v u Q I rx ry h
  obtain ⟨F, d, e, r, sf, hd, he, ef, k⟩ := h
  unfold gtD at ef
  split at ef
  · cases ef
    cases hd
    cases he
    exact op_gt pins s σ H _ _ v u Q I rx ry ⟨_, _, rfl, rfl, k _ F H (Grow.refl sf) (.bl _)⟩
  · cases ef
theorem op_geD : OpR X (compareOp .GtE) (rP2 (cxK X) geD) := by
  intro pins s σ H x y v u Q I rx ry h
  obtain ⟨F, d, e, r, sf, hd, he, ef, k⟩ := h
  unfold geD at ef
  split at ef
  · cases ef
    cases hd
    cases he
    exact op_ge pins s σ H _ _ v u Q I rx ry ⟨_, _, rfl, rfl, k _ F H (Grow.refl sf) (.bl _)⟩
  · cases ef
theorem isN_dp {K : Kx} {F : Hp} {x : V} {d : D} (h : Rp K F x d) : decide (x = .non) = isN d := by
  cases h <;> rfl
theorem op_isD : OpR X (compareOp .Is) (rP2 (cxK X) isD) := by
  intro pins s σ H x y v u Q I rx ry h
  obtain ⟨F, d, e, r, sf, hd, he, ef, k⟩ := h
  unfold isD at ef
  split at ef
  · cases ef
    cases he
    refine op_isN pins s σ H _ _ v u Q I rx ry ⟨rfl, ?_⟩
    rw [isN_dp hd]
    exact k _ F H (Grow.refl sf) (.bl _)
  · cases ef
    cases hd
    cases he
    exact op_is_bl pins s σ H _ _ v u Q I rx ry ⟨_, _, rfl, rfl, k _ F H (Grow.refl sf) (.bl _)⟩
  · cases ef
theorem op_isntD : OpR X (compareOp .IsNot) (rP2 (cxK X) isntD) := by
  intro pins s σ H x y v u Q I rx ry h
  obtain ⟨F, d, e, r, sf, hd, he, ef, k⟩ := h
  unfold isntD at ef
  split at ef
  · cases ef
    cases he
    refine op_notN pins s σ H _ _ v u Q I rx ry ⟨rfl, ?_⟩
    rw [isN_dp hd]
    exact k _ F H (Grow.refl sf) (.bl _)
  · cases ef
    cases hd
    cases he
    exact op_isnot_bl pins s σ H _ _ v u Q I rx ry ⟨_, _, rfl, rfl, k _ F H (Grow.refl sf) (.bl _)⟩
  · cases ef
end

/-! ### items, slices -/
def ixA {α : Type} (xs : List α) (i : Int) : Option α := if 0 ≤ i then xs[i.toNat]? else if -(xs.length : Int) ≤ i then xs[(i + xs.length).toNat]? else none
def ixD : D → D → Option D
  | .list xs, .int i => ixA xs i
  | .tuple xs, .int i => ixA xs i
  | _, _ => none
theorem ixA_at {α : Type} {xs : List α} {i : Int} {x : α} (h : ixA xs i = some x) : atI xs i = some x := by
  unfold ixA at h
  unfold atI ixN
  split at h
  · rename_i h0
    have hl : i.toNat < xs.length := (List.getElem?_eq_some_iff.mp h).1
    rw [if_pos h0, if_pos (by omega)]
    exact h
  · rename_i h0
    split at h
    · rename_i h1
      rw [if_neg h0, if_pos h1]
      exact h
    · cases h
theorem da_ix {K : Kx} {F : Hp} {vs : List V} {ds : List D} {i : Int} {d : D} (r : RpAll K F vs ds) (h : ixA ds i = some d) : ∃ v, ixA vs i = some v ∧ Rp K F v d := by
  have hl := da_len r
  unfold ixA at h ⊢
  split at h
  · rename_i h0
    rw [if_pos h0]
    exact da_at r h
  · rename_i h0
    rw [if_neg h0]
    split at h
    · rename_i h1
      rw [if_pos (by rw [hl]; exact h1), hl]
      exact da_at r h
    · cases h
section
variable {X : Cx}
theorem ix_D : IxR X (rP2 (cxK X) ixD) := by
  intro value slice pins s σ H x y v u Q I rx ry h hs
  obtain ⟨F, d, e, r, sf, hd, he, ef, k⟩ := h
  unfold ixD at ef
  split at ef
  · cases he
    cases hd with
    | lst h1 d1 =>
      obtain ⟨z, e1, rz⟩ := da_ix d1 ef
      exact ix_list value slice pins s σ H _ _ v u Q I rx ry ⟨_, _, _, z, rfl, rfl, sf.seq h1, ixA_at e1, k z F H (Grow.refl sf) rz⟩ hs
  · cases he
    cases hd with
    | tup h1 d1 =>
      obtain ⟨z, e1, rz⟩ := da_ix d1 ef
      exact ix_tup value slice pins s σ H _ _ v u Q I rx ry ⟨_, _, _, z, rfl, rfl, seqT_same sf h1, ixA_at e1, k z F H (Grow.refl sf) rz⟩ hs
  · cases ef
end
def gNoP : Md (Option Int) := fun ρ => some (none, ρ)
def iOf : D → Option Int
  | .int i => some i
  | _ => none
def gPart (g : Md D) : Md (Option Int) := fun ρ => (g ρ).bind fun p => (iOf p.1).bind fun i => some (some i, p.2)
def tDO (K : Kx) (g : Md (Option Int)) : TO := fun σ H Q => ∃ (F : Hp) (ρ : Env) (d : Option Int) (ρ' : Env), St K F H σ ρ ∧ g ρ = some (d, ρ') ∧
  ∀ F' H', Stp F σ ρ H F' σ ρ' H' → St K F' H' σ ρ' → Q d H'
abbrev DO (X : Cx) (e : Option Expr) (g : Md (Option Int)) : Prop := PO X e (tDO (cxK X) g)
theorem po_imp {X : Cx} {e : Option Expr} {t t' : TO} (h : PO X e t) (i : ∀ σ H Q, t' σ H Q → t σ H Q) : PO X e t' := ⟨fun pins s σ H Q I q => h.run pins s σ H Q I (i σ H Q q)⟩
theorem iOf_some {d : D} {i : Int} (h : iOf d = some i) : d = .int i := by
  cases d <;> simp [iOf] at h
  subst h
  rfl
theorem do_none {X : Cx} : DO X none gNoP := po_imp po_none fun σ H Q q => by
  obtain ⟨F, ρ, d, ρ', s, eg, k⟩ := q
  cases eg
  exact k F H Stp.refl s
theorem do_some {X : Cx} {e : Expr} {g : Md D} (h : DE X e g) : DO X (some e) (gPart g) := po_imp (po_some h) fun σ H Q q => by
  obtain ⟨F, ρ, d, ρ', s, eg, k⟩ := q
  obtain ⟨⟨x, ρ1⟩, e1, eg1⟩ := bind_some eg
  obtain ⟨z, e3, eg2⟩ := bind_some eg1
  cases eg2
  have e5 := iOf_some e3
  subst e5
  exact ⟨F, ρ, _, _, s, e1, fun v F1 H1 p1 s1 r1 => ⟨z, by cases r1; rfl, k F1 H1 p1 s1⟩⟩
def cutA {α : Type} (xs : List α) (lo hi : Option Int) : List α := (xs.drop (HT.sIx xs.length 0 lo)).take (HT.sIx xs.length xs.length hi - HT.sIx xs.length 0 lo)
def cutD (d : D) (lo hi : Option Int) : Option D := match d with
  | .list xs => some (.list (cutA xs lo hi))
  | .tuple xs => some (.tuple (cutA xs lo hi))
  | _ => none
def gSl (ga : Md D) (gl gh : Md (Option Int)) : Md D := fun ρ => (ga ρ).bind fun p => (gl p.2).bind fun q => (gh q.2).bind fun r => (cutD p.1 q.1 r.1).bind fun d => some (d, r.2)
theorem da_cut {K : Kx} {F : Hp} {vs : List V} {ds : List D} (r : RpAll K F vs ds) (lo hi : Option Int) : RpAll K F (cutV vs lo hi) (cutA ds lo hi) := by
  have hl := da_len r
  unfold cutV cutA
  rw [hl]
  exact da_take _ (da_drop _ r)
section
variable {X : Cx} {e : Expr} {lo hi : Option Expr} {pos p2 : Pos}
theorem de_slice {ga : Md D} {gl gh : Md (Option Int)} (he : DE X e ga) (hl : DO X lo gl) (hh : DO X hi gh) : DE X (.Subscript e (.Slice lo hi none p2) pos) (gSl ga gl gh) :=
  pe_imp (pe_slice (sl_list.or sl_tupA) he hl hh) fun σ H Q q => by
    obtain ⟨F, ρ, d, ρ', s, eg, k⟩ := q
    obtain ⟨⟨x, ρ1⟩, e1, eg1⟩ := bind_some eg
    obtain ⟨⟨l, ρ2⟩, e2, eg2⟩ := bind_some eg1
    obtain ⟨⟨h, ρ3⟩, e3, eg3⟩ := bind_some eg2
    obtain ⟨z, e4, eg4⟩ := bind_some eg3
    cases eg4
    refine ⟨F, ρ, x, ρ1, s, e1, fun v F1 H1 p1 s1 r1 => ⟨F1, ρ1, l, ρ2, s1, e2, fun F2 H2 p2 s2 => ⟨F2, ρ2, h, _, s2, e3, fun F3 H3 p3 s3 => ?_⟩⟩⟩
    have pp := p1.trans (p2.trans p3)
    have r3 : Rp (cxK X) F3 v x := dp_mono (p2.ff.trans p3.ff) _ _ r1
    have e5 : cutD x l h = some _ := e4
    clear e4 eg3 eg2 eg1 eg
    cases x with
    | list xs =>
      cases e5
      cases r3 with
      | @lst a vs _ h1 d1 =>
        refine .inl ⟨a, vs, rfl, s3.sub.seq h1, fun p hp => ?_⟩
        have gr : Grow F3 H3 (upd F3 p (.lst (cutV vs l h))) (upd H3 p (.lst (cutV vs l h))) := Grow.val s3.sub hp
        exact k _ _ _ (pp.trans (gr.stp σ _)) (s3.grow gr) (.lst (.inl (.inl upd_same)) (dpAll_mono gr.ff _ _ (da_cut d1 l h)))
    | tuple xs =>
      cases e5
      cases r3 with
      | @tup a vs _ h1 d1 =>
        refine .inr ⟨a, vs, rfl, seqT_same s3.sub h1, fun hw => ?_, fun _ p hp => ?_⟩
        · have hl := da_len d1
          have ec : ∀ (xs : List D), HT.sIx xs.length 0 l = 0 ∧ HT.sIx xs.length xs.length h = xs.length → cutA xs l h = xs := fun xs w => by
            unfold cutA
            rw [w.1, w.2]
            simp
          rw [ec _ (by rw [← hl]; exact hw)] at k
          exact k _ _ _ pp s3 (.tup h1 d1)
        · have gr : Grow F3 H3 (upd F3 p (.tup (cutV vs l h))) (upd H3 p (.tup (cutV vs l h))) := Grow.val s3.sub hp
          exact k _ _ _ (pp.trans (gr.stp σ _)) (s3.grow gr) (.tup (.inl (.inl upd_same)) (dpAll_mono gr.ff _ _ (da_cut d1 l h)))
    | none => cases e5
    | bool _ => cases e5
    | int _ => cases e5
    | str _ => cases e5
    | dict _ => cases e5
end

/-! ### built-ins -/
def lenF : List D → Option D
  | [.list xs] => some (.int xs.length)
  | [.tuple xs] => some (.int xs.length)
  | [.str x] => if x.length ≤ 16777216 then some (.int x.length) else none
  | _ => none
def intF : List D → Option D
  | [.int i] => some (.int i)
  | [.bool b] => some (.int (if b then 1 else 0))
  | _ => none
def absF : List D → Option D
  | [.int i] => some (.int (if i < 0 then -i else i))
  | _ => none
def maxF : List D → Option D
  | [.int i, .int j] => some (.int (if j > i then j else i))
  | _ => none
def minF : List D → Option D
  | [.int i, .int j] => some (.int (if j < i then j else i))
  | _ => none
def tupF : List D → Option D
  | [.list xs] => some (.tuple xs)
  | [.tuple xs] => some (.tuple xs)
  | _ => none
def lstF : List D → Option D
  | [.list xs] => some (.list xs)
  | [.tuple xs] => some (.list xs)
  | _ => none
def strF : List D → Option D
  | [.int i] => if i.natAbs.log2 < 1920 then some (.str (toString i)) else none
  | _ => none
def ordF : List D → Option D
  | [.str x] => if x.length = 1 then some (.int (x.cps.getD 0 0 : Nat)) else none
  | _ => none
section
variable {X : Cx}
theorem da1 {K : Kx} {F : Hp} {vs : List V} {d : D} (h : RpAll K F vs [d]) : ∃ v, vs = [v] ∧ Rp K F v d := by
  cases h with
  | cons h t =>
    cases t
    exact ⟨_, rfl, h⟩
theorem da2 {K : Kx} {F : Hp} {vs : List V} {d e : D} (h : RpAll K F vs [d, e]) : ∃ v w, vs = [v, w] ∧ Rp K F v d ∧ Rp K F w e := by
  cases h with
  | cons h t =>
    obtain ⟨w, rfl, r⟩ := da1 t
    exact ⟨_, w, rfl, h, r⟩
theorem call_lenD : CallR X (.builtin "len") (rPn (cxK X) lenF) := by
  intro pins s σ H xs us Q I rx h
  obtain ⟨F, ds, r, sf, hd, ef, k⟩ := h
  unfold lenF at ef
  split at ef
  · cases ef
    obtain ⟨v, rfl, hv⟩ := da1 hd
    cases hv with
    | lst h1 d1 => exact call_len_seq pins s σ H _ us Q I rx ⟨_, _, rfl, .inl (sf.seq h1), by rw [da_len d1]; exact k _ F H (Grow.refl sf) (.int _)⟩
  · cases ef
    obtain ⟨v, rfl, hv⟩ := da1 hd
    cases hv with
    | tup h1 d1 => exact call_len_seq pins s σ H _ us Q I rx ⟨_, _, rfl, .inr (seqT_same sf h1), by rw [da_len d1]; exact k _ F H (Grow.refl sf) (.int _)⟩
  · split at ef
    · rename_i hl
      cases ef
      obtain ⟨v, rfl, hv⟩ := da1 hd
      cases hv
      exact call_len_str pins s σ H _ us Q I rx ⟨_, rfl, by rw [line_eq]; exact hl, k _ F H (Grow.refl sf) (.int _)⟩
    · cases ef
  · cases ef
theorem call_intD : CallR X (.type "int") (rPn (cxK X) intF) := by
  intro pins s σ H xs us Q I rx h
  obtain ⟨F, ds, r, sf, hd, ef, k⟩ := h
  unfold intF at ef
  split at ef
  · cases ef
    obtain ⟨v, rfl, hv⟩ := da1 hd
    cases hv
    exact call_int1 pins s σ H _ us Q I rx (.inl ⟨_, rfl, k _ F H (Grow.refl sf) (.int _)⟩)
  · cases ef
    obtain ⟨v, rfl, hv⟩ := da1 hd
    cases hv
    exact call_int1 pins s σ H _ us Q I rx (.inr ⟨_, rfl, k _ F H (Grow.refl sf) (.int _)⟩)
  · cases ef
theorem call_absD : CallR X (.builtin "abs") (rPn (cxK X) absF) := by
  intro pins s σ H xs us Q I rx h
  obtain ⟨F, ds, r, sf, hd, ef, k⟩ := h
  unfold absF at ef
  split at ef
  · cases ef
    obtain ⟨v, rfl, hv⟩ := da1 hd
    cases hv
    exact call_abs pins s σ H _ us Q I rx ⟨_, rfl, k _ F H (Grow.refl sf) (.int _)⟩
  · cases ef
theorem call_maxD (hc : X.calm = true) : CallR X (.builtin "max") (rPn (cxK X) maxF) := by
  intro pins s σ H xs us Q I rx h
  obtain ⟨F, ds, r, sf, hd, ef, k⟩ := h
  unfold maxF at ef
  split at ef
  · cases ef
    obtain ⟨v, w, rfl, hv, hw⟩ := da2 hd
    cases hv
    cases hw
    exact call_max2 hc pins s σ H _ us Q I rx ⟨_, _, rfl, k _ F H (Grow.refl sf) (.int _)⟩
  · cases ef
theorem call_minD (hc : X.calm = true) : CallR X (.builtin "min") (rPn (cxK X) minF) := by
  intro pins s σ H xs us Q I rx h
  obtain ⟨F, ds, r, sf, hd, ef, k⟩ := h
  unfold minF at ef
  split at ef
  · cases ef
    obtain ⟨v, w, rfl, hv, hw⟩ := da2 hd
    cases hv
    cases hw
    exact call_min2 hc pins s σ H _ us Q I rx ⟨_, _, rfl, k _ F H (Grow.refl sf) (.int _)⟩
  · cases ef
theorem call_tupD : CallR X (.type "tuple") (rPn (cxK X) tupF) := by
  intro pins s σ H xs us Q I rx h
  obtain ⟨F, ds, r, sf, hd, ef, k⟩ := h
  unfold tupF at ef
  split at ef
  · cases ef
    obtain ⟨v, rfl, hv⟩ := da1 hd
    cases hv with
    | @lst a vs _ h1 d1 =>
      refine call_tuple_of pins s σ H _ us Q I rx ⟨a, vs, rfl, .inl ⟨sf.seq h1, fun p hp => ?_⟩⟩
      have gr : Grow F H (upd F p (.tup vs)) (upd H p (.tup vs)) := Grow.val sf hp
      exact k _ _ _ gr (.tup (.inl (.inl upd_same)) (dpAll_mono gr.ff _ _ d1))
  · cases ef
    obtain ⟨v, rfl, hv⟩ := da1 hd
    cases hv with
    | tup h1 d1 => exact call_tuple_of pins s σ H _ us Q I rx ⟨_, _, rfl, .inr ⟨seqT_same sf h1, k _ F H (Grow.refl sf) (.tup h1 d1)⟩⟩
  · cases ef
theorem call_lstD : CallR X (.type "list") (rFn (cxK X) lstF) := by
  intro pins s σ H xs us Q I rx h
  obtain ⟨F, ds, r, sf, hd, ef, k⟩ := h
  unfold lstF at ef
  split at ef
  · cases ef
    obtain ⟨v, rfl, hv⟩ := da1 hd
    cases hv with
    | lst h1 d1 => exact call_list_of pins s σ H _ us Q I rx ⟨_, _, rfl, .inl (sf.seq h1), fun p hp => k p _ _ (Grow.own sf hp) (own_new sf hp d1) hp⟩
  · cases ef
    obtain ⟨v, rfl, hv⟩ := da1 hd
    cases hv with
    | tup h1 d1 => exact call_list_of pins s σ H _ us Q I rx ⟨_, _, rfl, .inr (seqT_same sf h1), fun p hp => k p _ _ (Grow.own sf hp) (own_new sf hp d1) hp⟩
  · cases ef
theorem call_strD : CallR X (.type "str") (rPn (cxK X) strF) := by
  intro pins s σ H xs us Q I rx h
  obtain ⟨F, ds, r, sf, hd, ef, k⟩ := h
  unfold strF at ef
  split at ef
  · split at ef
    · rename_i hl
      cases ef
      obtain ⟨v, rfl, hv⟩ := da1 hd
      cases hv
      exact call_str_int pins s σ H _ us Q I rx ⟨_, rfl, hl, k _ F H (Grow.refl sf) (.str _)⟩
    · cases ef
  · cases ef
theorem call_ordD : CallR X (.builtin "ord") (rPn (cxK X) ordF) := by
  intro pins s σ H xs us Q I rx h
  obtain ⟨F, ds, r, sf, hd, ef, k⟩ := h
  unfold ordF at ef
  split at ef
  · split at ef
    · rename_i hl
      cases ef
      obtain ⟨v, rfl, hv⟩ := da1 hd
      cases hv
      exact call_ord pins s σ H _ us Q I rx ⟨_, rfl, hl, k _ F H (Grow.refl sf) (.int _)⟩
    · cases ef
  · cases ef
end
/-- the built-in class of a datum -/
def tyD : D → String
  | .none => "NoneType"
  | .bool _ => "bool"
  | .int _ => "int"
  | .str _ => "str"
  | .list _ => "list"
  | .tuple _ => "tuple"
  | .dict _ => "dict"
/-- its type is told by the datum -/
def tyOk : D → Bool
  | .dict ((.int _, _) :: _) => true
  | .dict ((.str _, _) :: _) => true
  | .dict _ => false
  | _ => true
def isiF (T : String) : List D → Option D
  | [d] => if tyOk d = true then (kitB (tyD d) T).bind fun b => some (.bool b) else none
  | _ => none
section
variable {X : Cx}
theorem dp_ty {K : Kx} {F H : Hp} {v : V} {d : D} (s : Same F H) (h : Rp K F v d) (ok : tyOk d = true) : TyX K H v (.type (tyD d)) := by
  cases h with
  | non => exact .base .non
  | bl b => exact .base (.bl b)
  | int i => exact .base (.int i)
  | str x => exact .base (.str x)
  | lst h1 _ =>
    rcases h1 with (h1 | ⟨o, h1⟩) | ⟨o, its, n, h1, h2, _⟩
    · exact .base (.lst (s _ _ h1))
    · exact .base (.frz (s _ _ h1))
    · exact .kList h1 h2
  | dic h1 _ => exact .base (.dK (s _ _ h1))
  | dicN _ hr =>
    cases hr with
    | nil => cases ok
    | @cons k ka x dk dv xs es hk h1 h2 h3 =>
      cases dk <;> first | (cases h1; done) | (simp [tyOk] at ok; done)
  | tup h1 _ =>
    rcases h1 with (h1 | ⟨o, h1⟩) | ⟨o, its, n, h1, h2, _⟩
    · exact .base (.tup (s _ _ h1))
    · exact .fTuple (s _ _ h1)
    · exact .kTuple h1 h2
theorem isi_cut {T : String} {vs : List V} {H : Hp} {Q : VK} (h : rPn (cxK X) (isiF T) vs H Q) : rIsi (cxK X) (vs ++ [.ty T]) H Q := by
  obtain ⟨F, ds, r, sf, hd, ef, k⟩ := h
  unfold isiF at ef
  split at ef
  · split at ef
    · rename_i ok
      obtain ⟨v, rfl, hv⟩ := da1 hd
      obtain ⟨b, e1, e2⟩ := bind_some ef
      cases e2
      exact ⟨v, .ty T, _, _, b, rfl, .ty T, dp_ty sf hv ok, kit_ty e1, k _ F H (Grow.refl sf) (.bl _)⟩
    · cases ef
  · cases ef
end
end Dn
set_option maxHeartbeats 2000000
/-! calls, statements, loops, comprehensions, defs -/
namespace Dn
open PySem PySem.Spec PyProof.Rows L2

section
variable {X : Cx} {e a b c : Expr} {es : List Expr} {pos p cpos apos : Pos} {x : Str}

/-! ### calls of built-ins -/
theorem app_q {r : List V → Hp → VK → Prop} {f : List D → Option D} {gs : Md (List D)} (hr : r = rPn (cxK X) f) {σ : L2.St} {H : Hp} {Q : VK} (q : tD (cxK X) (gApp f gs) σ H Q) : tDA (cxK X) gs σ H fun vs H1 => r vs H1 Q := by
  subst hr
  obtain ⟨F, ρ, d, ρ', s, eg, k⟩ := q
  obtain ⟨⟨ds, ρ1⟩, e1, eg1⟩ := bind_some eg
  obtain ⟨z, e3, eg2⟩ := bind_some eg1
  cases eg2
  exact ⟨F, ρ, ds, _, s, e1, fun vs F1 H1 p1 s1 r1 => ⟨F1, ds, _, s1.sub, r1, e3, fun w F3 H3 gr rw' => k w F3 H3 (p1.trans (gr.stp σ _)) (s1.grow gr) rw'⟩⟩
theorem appF_q {r : List V → Hp → VK → Prop} {f : List D → Option D} {gs : Md (List D)} (hr : r = rFn (cxK X) f) {σ : L2.St} {H : Hp} {Q : VK} (q : tF (cxK X) (gApp f gs) σ H Q) : tDA (cxK X) gs σ H fun vs H1 => r vs H1 Q := by
  subst hr
  obtain ⟨F, ρ, d, ρ', s, eg, k⟩ := q
  obtain ⟨⟨ds, ρ1⟩, e1, eg1⟩ := bind_some eg
  obtain ⟨z, e3, eg2⟩ := bind_some eg1
  cases eg2
  exact ⟨F, ρ, ds, _, s, e1, fun vs F1 H1 p1 s1 r1 => ⟨F1, ds, _, s1.sub, r1, e3, fun a F3 H3 gr o hn => k a F3 H3 (p1.trans (gr.stp σ _)) (s1.grow gr) o (not_owns s1 hn) (p1.none hn)⟩⟩
theorem de_callB {id : String} {f : List D → Option D} {gs : Md (List D)} (hc : CallR X (.builtin id) (rPn (cxK X) f)) (hg : Gl X x) (hm : X.mg x = none) (hv : bootBuiltins x = some (.builtin id)) (ha : DA X (e :: es) gs) (hn : x ≠ "__name__" := by decide) (hdb : (x == ("__debug__" : Str)) = false := by decide)
    (he : starEach (e :: es) X.env = (false, eval e X.env) :: starEach es X.env := by rfl) (hpl : (backTo pos (starEach es X.env)).any (·.1) = false := by rfl) : DE X (.Call (.Name x p) (e :: es) [] pos) (gApp f gs) :=
  pe_imp (pe_callB hc hg hm hv ha hn hdb he hpl) fun _ _ _ q => app_q rfl q
theorem de_callTy {T : String} {f : List D → Option D} {gs : Md (List D)} (hc : CallR X (.type T) (rPn (cxK X) f)) (hg : Gl X x) (hm : X.mg x = none) (hv : bootBuiltins x = some (.type T)) (ha : DA X (e :: es) gs) (hn : x ≠ "__name__" := by decide) (hdb : (x == ("__debug__" : Str)) = false := by decide)
    (he : starEach (e :: es) X.env = (false, eval e X.env) :: starEach es X.env := by rfl) (hpl : (backTo pos (starEach es X.env)).any (·.1) = false := by rfl) : DE X (.Call (.Name x p) (e :: es) [] pos) (gApp f gs) :=
  pe_imp (pe_callTy hc hg hm hv ha hn hdb he hpl) fun _ _ _ q => app_q rfl q
theorem df_callTy {T : String} {f : List D → Option D} {gs : Md (List D)} (hc : CallR X (.type T) (rFn (cxK X) f)) (hg : Gl X x) (hm : X.mg x = none) (hv : bootBuiltins x = some (.type T)) (ha : DA X (e :: es) gs) (hn : x ≠ "__name__" := by decide) (hdb : (x == ("__debug__" : Str)) = false := by decide)
    (he : starEach (e :: es) X.env = (false, eval e X.env) :: starEach es X.env := by rfl) (hpl : (backTo pos (starEach es X.env)).any (·.1) = false := by rfl) : DF X (.Call (.Name x p) (e :: es) [] pos) (gApp f gs) :=
  pe_imp (pe_callTy hc hg hm hv ha hn hdb he hpl) fun _ _ _ q => appF_q rfl q
theorem df_callB {id : String} {f : List D → Option D} {gs : Md (List D)} (hc : CallR X (.builtin id) (rFn (cxK X) f)) (hg : Gl X x) (hm : X.mg x = none) (hv : bootBuiltins x = some (.builtin id)) (ha : DA X (e :: es) gs) (hn : x ≠ "__name__" := by decide) (hdb : (x == ("__debug__" : Str)) = false := by decide)
    (he : starEach (e :: es) X.env = (false, eval e X.env) :: starEach es X.env := by rfl) (hpl : (backTo pos (starEach es X.env)).any (·.1) = false := by rfl) : DF X (.Call (.Name x p) (e :: es) [] pos) (gApp f gs) :=
  pe_imp (pe_callB hc hg hm hv ha hn hdb he hpl) fun _ _ _ q => appF_q rfl q
/-- isinstance(e, T) -/
theorem de_isi {T : String} {y : Str} {p2 : Pos} {g : Md D} (hm : X.mg "isinstance" = none) (hgl : Gl X "isinstance") (hgy : Gl X y) (hmy : X.mg y = none) (hv : bootBuiltins y = some (.type T)) (ha : DE X e g) (hny : y ≠ "__name__" := by decide) (hdy : (y == ("__debug__" : Str)) = false := by decide)
    (he : starEach (e :: [.Name y p2]) X.env = (false, eval e X.env) :: starEach [.Name y p2] X.env := by rfl) (he2 : starEach ([.Name y p2]) X.env = (false, eval (.Name y p2) X.env) :: starEach [] X.env := by rfl) (hpl : (backTo pos (starEach [.Name y p2] X.env)).any (·.1) = false := by rfl) : DE X (.Call (.Name "isinstance" p) [e, .Name y p2] [] pos) (gApp (isiF T) (gCons g gNil)) :=
  pe_imp (pe_callB call_isi hgl hm (by decide +kernel) (pa_cons ha (pa_cons (pe_bltn (v := .ty T) hgy hmy hv rfl hny hdy) pa_nil he2) he) (by decide) (by decide) he hpl) fun σ H Q q => by
    obtain ⟨F, ρ, d, ρ', s, eg, k⟩ := q
    obtain ⟨⟨ds, ρ1⟩, e1, eg1⟩ := bind_some eg
    obtain ⟨z, e3, eg2⟩ := bind_some eg1
    cases eg2
    obtain ⟨⟨d1, ρ2⟩, e4, eg4⟩ := bind_some e1
    cases eg4
    exact ⟨F, ρ, d1, ρ2, s, e4, fun v F1 H1 p1 s1 r1 => isi_cut (vs := [v]) ⟨F1, [d1], _, s1.sub, .cons r1 .nil, e3, fun w F3 H3 gr rw' => k w F3 H3 (p1.trans (gr.stp σ ρ2)) (s1.grow gr) rw'⟩⟩

/-! ### defs: their promises -/
def spV (K : Kx) (n : Nat) (f : List D → Option D) : Sp := fun vs H Q _ => vs.length = n ∧ rPn K f vs H Q
/-- .. whose first argument is a list that is changed -/
def spIO (K : Kx) (n : Nat) (f : D → List D → Option (D × D)) : Sp := fun vs H Q _ => vs.length = n ∧ ∃ (F : Hp) (a : Addr) (ws : List V) (d : D) (ds : List D) (r d' : D), vs = .ref a :: ws ∧ Same F H ∧ OwnAt K F H a d ∧ RpAll K F ws ds ∧ f d ds = some (r, d') ∧
  ∀ v F' H', Same F F' → Same F' H' → (∀ b o, H b = some o → b ≠ a → H' b = some o ∧ F' b = F b) → OwnAt K F' H' a d' → Rp K F' v r → Q v H'
theorem de_call {k n : Nat} {f : Addr} {fd : FuncData} {ps : List Str} {g : List D → Option D} {gs : Md (List D)} (G : FnOk X.prog X.w X.K X.mg X.base CX0 k f fd ps (spV (cxK X) n g)) (hr : Room k X.A) (hg : Gl X x) (hm : X.mg x = some (.ref f)) (hk : PySem.W.keepIn X.K (.ref f) = true) (hb : Binds X.K fd ps []) (hn : (e :: es).length = n) (ha : DA X (e :: es) gs) (hlen : ∀ ρ ds ρ', gs ρ = some (ds, ρ') → ds.length = n)
    (hdb : (x == ("__debug__" : Str)) = false := by decide) (he : starEach (e :: es) X.env = (false, eval e X.env) :: starEach es X.env := by rfl) (hpl : (backTo pos (starEach es X.env)).any (·.1) = false := by rfl) : DE X (.Call (.Name x p) (e :: es) [] pos) (gApp g gs) :=
  pe_imp (pe_call G hr hg hm hk hb .nil pass0 ha hdb he hpl) fun σ H Q q => by
    obtain ⟨F, ρ, d, ρ', s, eg, k⟩ := q
    obtain ⟨⟨ds, ρ1⟩, e1, eg1⟩ := bind_some eg
    obtain ⟨z, e3, eg2⟩ := bind_some eg1
    cases eg2
    exact ⟨F, ρ, ds, _, s, e1, fun vs F1 H1 p1 s1 r1 => ⟨by rw [List.append_nil, da_len r1]; exact hlen _ _ _ e1, F1, ds, _, s1.sub, by rw [List.append_nil]; exact r1, e3, fun w F3 H3 gr rw' => k w F3 H3 (p1.trans (gr.stp σ _)) (s1.grow gr) rw'⟩⟩
/-- .. that hands back a new list of the caller's own -/
def spF (K : Kx) (n : Nat) (f : List D → Option D) : Sp := fun vs H Q _ => vs.length = n ∧ rFn K f vs H Q
theorem df_call {k n : Nat} {f : Addr} {fd : FuncData} {ps : List Str} {g : List D → Option D} {gs : Md (List D)} (G : FnOk X.prog X.w X.K X.mg X.base CX0 k f fd ps (spF (cxK X) n g)) (hr : Room k X.A) (hg : Gl X x) (hm : X.mg x = some (.ref f)) (hk : PySem.W.keepIn X.K (.ref f) = true) (hb : Binds X.K fd ps []) (hn : (e :: es).length = n) (ha : DA X (e :: es) gs) (hlen : ∀ ρ ds ρ', gs ρ = some (ds, ρ') → ds.length = n)
    (hdb : (x == ("__debug__" : Str)) = false := by decide) (he : starEach (e :: es) X.env = (false, eval e X.env) :: starEach es X.env := by rfl) (hpl : (backTo pos (starEach es X.env)).any (·.1) = false := by rfl) : DF X (.Call (.Name x p) (e :: es) [] pos) (gApp g gs) :=
  pe_imp (pe_call G hr hg hm hk hb .nil pass0 ha hdb he hpl) fun σ H Q q => by
    obtain ⟨F, ρ, d, ρ', s, eg, k⟩ := q
    obtain ⟨⟨ds, ρ1⟩, e1, eg1⟩ := bind_some eg
    obtain ⟨z, e3, eg2⟩ := bind_some eg1
    cases eg2
    exact ⟨F, ρ, ds, _, s, e1, fun vs F1 H1 p1 s1 r1 => ⟨by rw [List.append_nil, da_len r1]; exact hlen _ _ _ e1, F1, ds, _, s1.sub, by rw [List.append_nil]; exact r1, e3, fun a F3 H3 gr o hn => k a F3 H3 (p1.trans (gr.stp σ _)) (s1.grow gr) o (not_owns s1 hn) (p1.none hn)⟩⟩
theorem len_nil : ∀ ρ ds ρ', gNil ρ = some (ds, ρ') → ds.length = 0 := fun ρ ds ρ' h => by
  cases h
  rfl
theorem len_cons {g : Md D} {gs : Md (List D)} {n : Nat} (h : ∀ ρ ds ρ', gs ρ = some (ds, ρ') → ds.length = n) : ∀ ρ ds ρ', gCons g gs ρ = some (ds, ρ') → ds.length = n + 1 := fun ρ ds ρ' e => by
  obtain ⟨⟨x, ρ1⟩, e1, eg1⟩ := bind_some e
  obtain ⟨⟨y, ρ2⟩, e2, eg2⟩ := bind_some eg1
  cases eg2
  exact congrArg (· + 1) (h _ _ _ e2)
def setC (i : Nat) (c : Cell) (ρ : Env) : Option Env := match ρ[i]? with
  | some (some (.own true _)) => none
  | some _ => some (ρ.set i (some c))
  | none => none
def gCallIO (i : Nat) (f : D → List D → Option (D × D)) (gs : Md (List D)) : Md D := fun ρ => match ρ[i]? with
  | some (some (.own _ _)) => (gs ρ).bind fun p => match p.2[i]? with
    | some (some (.own b d)) => (f d p.1).bind fun r => some (r.1, p.2.set i (some (.own b r.2)))
    | _ => none
  | _ => none
theorem st_own_set {K : Kx} {F H F' H' : Hp} {σ : L2.St} {ρ : Env} {i : Nat} {b : Bool} {d d' : D} {a : Addr} (s : St K F H σ ρ) (e : ρ[i]? = some (some (.own b d))) (ea : σ[i]? = some (some (.ref a))) (sf : Same F F') (sh : Same F' H')
    (kp : ∀ c o, H c = some o → c ≠ a → H' c = some o ∧ F' c = F c) (o : OwnAt K F' H' a d') : St K F' H' σ (ρ.set i (some (.own b d'))) ∧ Stp F σ ρ H F' σ (ρ.set i (some (.own b d'))) H' := by
  have sub : ∀ c, Owns σ (ρ.set i (some (.own b d'))) c → Owns σ ρ c := fun c h => by
    obtain ⟨j, f, dj, h1, h2⟩ := h
    by_cases z : j = i
    · subst z
      exact ⟨j, b, d, e, h2⟩
    · rw [get_set_ne z] at h1
      exact ⟨j, f, dj, h1, h2⟩
  refine ⟨⟨sh, by rw [List.length_set]; exact s.len, fun j c hj => ?_, fun j l f g dj dl x h1 h2 h3 h4 => ?_⟩, ⟨sf, fun c u hc nc => kp c u hc fun z => nc (by subst z; exact ⟨i, b, d, e, ea⟩), fun c h => .inl (sub c h), fun j dj hj => ⟨rfl, ?_⟩, fun c u hc => ?_⟩⟩
  · by_cases z : j = i
    · subst z
      rw [get_set_self e] at hj
      cases hj
      exact ⟨a, ea, o⟩
    · rw [get_set_ne z] at hj
      have q := s.cell j c hj
      cases c with
      | val dj =>
        obtain ⟨v, e2, r2⟩ := q
        exact ⟨v, e2, dp_mono sf _ _ r2⟩
      | own f dj =>
        obtain ⟨c, e2, ow⟩ := q
        have ne : c ≠ a := fun y => z (by subst y; exact s.dist j i f b dj d _ hj e e2 ea)
        obtain ⟨u, e4⟩ := ow.there
        obtain ⟨g1, g2⟩ := kp c _ e4 ne
        exact ⟨c, e2, g2.trans ow.1, ow.2.mono sf fun o e5 => (kp c o e5 ne).1⟩
  · have h1' : ∃ f dj, ρ[j]? = some (some (.own f dj)) := by
      by_cases z : j = i
      · subst z; exact ⟨b, d, e⟩
      · rw [get_set_ne z] at h1; exact ⟨f, dj, h1⟩
    have h2' : ∃ f dj, ρ[l]? = some (some (.own f dj)) := by
      by_cases z : l = i
      · subst z; exact ⟨b, d, e⟩
      · rw [get_set_ne z] at h2; exact ⟨g, dl, h2⟩
    obtain ⟨f1, d1, g1⟩ := h1'
    obtain ⟨f2, d2, g2⟩ := h2'
    exact s.dist j l f1 f2 d1 d2 x g1 g2 h3 h4
  · by_cases z : j = i
    · subst z
      rw [e] at hj
      cases hj
      exact ⟨d', get_set_self e⟩
    · rw [get_set_ne z]
      exact ⟨dj, hj⟩
  · by_cases z : c = a
    · subst z
      exact o.there
    · exact ⟨u, (kp c u hc z).1⟩
theorem de_callIO (i : Nat) {k n : Nat} {y : Str} {f : Addr} {fd : FuncData} {ps : List Str} {py : Pos} {g : D → List D → Option (D × D)} {gs : Md (List D)} (G : FnOk X.prog X.w X.K X.mg X.base CX0 k f fd ps (spIO (cxK X) (n + 1) g)) (hr : Room k X.A) (hg : Gl X x) (hm : X.mg x = some (.ref f)) (hk : PySem.W.keepIn X.K (.ref f) = true) (hb : Binds X.K fd ps [])
    (hN : X.N[i]? = some y) (hv : Vis X.env.scope y) (ha : DA X es gs) (hlen : ∀ ρ ds ρ', gs ρ = some (ds, ρ') → ds.length = n)
    (hdb : (x == ("__debug__" : Str)) = false := by decide) (hdy : (y == ("__debug__" : Str)) = false := by decide) (hcd : (y == ("__classdict__" : Str)) = false := by decide) (he : starEach (.Name y py :: es) X.env = (false, eval (.Name y py) X.env) :: starEach es X.env := by rfl) (hpl : (backTo pos (starEach es X.env)).any (·.1) = false := by rfl) : DE X (.Call (.Name x p) (.Name y py :: es) [] pos) (gCallIO i g gs) :=
  pe_imp (pe_call G hr hg hm hk hb .nil pass0 (pa_cons (pe_var hN hv hdy hcd) ha he) hdb he hpl) fun σ H Q q => by
    obtain ⟨F, ρ, d, ρ', s, eg, k⟩ := q
    unfold gCallIO at eg
    split at eg
    · rename_i b0 d0 h0
      obtain ⟨a, ea, _, _⟩ := st_owned s h0
      obtain ⟨⟨ds, ρ1⟩, e1, eg1⟩ := bind_some eg
      simp only at eg1
      split at eg1
      · rename_i b1 d1 h1
        obtain ⟨⟨r, d'⟩, e2, eg2⟩ := bind_some eg1
        cases eg2
        refine ⟨.ref a, ea, F, ρ, ds, ρ1, s, e1, fun vs F1 H1 p1 s1 r1 => ⟨?_, F1, a, vs, d1, ds, r, d', by simp, s1.sub, ?_, r1, e2, fun v F2 H2 sf sh kp o rv => ?_⟩⟩
        · simp [da_len r1, hlen _ _ _ e1]
        · obtain ⟨a1, ea1, o1, _⟩ := st_owned s1 h1
          rw [ea] at ea1
          cases ea1
          exact o1
        · obtain ⟨s2, p2⟩ := st_own_set s1 h1 ea sf sh kp o
          exact k v F2 H2 (p1.trans p2) s2 rv
      · cases eg1
    · cases eg

/-! ### statements -/
theorem fl_base {K : Kx} {E : Ends} {H H1 F' : Hp} {σ' : L2.St} {H' : Hp} {f : Fl} (h : FlOk K E H F' σ' H' f) (p : ∀ a, H1 a = none → H a = none) : FlOk K E H1 F' σ' H' f := by
  cases f with
  | rof d => exact fun a o n => h a o (p a n)
  | nx => exact h
  | ret d => exact h
  | brk => exact h
  | cnt => exact h
def sNext : Sd := fun ρ => some (.nx, ρ)
def sSeq (s t : Sd) : Sd := fun ρ => (s ρ).bind fun p => match p.1 with
  | .nx => t p.2
  | f => some (f, p.2)
def sIf (g : Md Bool) (s t : Sd) : Sd := fun ρ => (g ρ).bind fun p => if p.1 = true then s p.2 else t p.2
def sRet (g : Md D) : Sd := fun ρ => (g ρ).bind fun p => some (.ret p.1, p.2)
def sDrop (g : Md D) : Sd := fun ρ => (g ρ).bind fun p => some (.nx, p.2)
def sSet (i : Nat) (g : Md D) : Sd := fun ρ => (g ρ).bind fun p => (setC i (.val p.1) p.2).bind fun r => some (.nx, r)
def sOwn (i : Nat) (g : Md D) : Sd := fun ρ => (g ρ).bind fun p => (setC i (.own false p.1) p.2).bind fun r => some (.nx, r)
def sBrk : Sd := fun ρ => some (.brk, ρ)
def sCnt : Sd := fun ρ => some (.cnt, ρ)
variable {st : Stmt} {sts : List Stmt}
theorem dss_nil : DSs X [] sNext := pss_imp pss_nil fun E σ H q => by
  obtain ⟨F, ρ, f, ρ', s, eg, k⟩ := q
  cases eg
  exact k σ F H Stp.refl s
theorem dss_cons {g h : Sd} (h1 : DS X st g) (h2 : DSs X sts h) : DSs X (st :: sts) (sSeq g h) := pss_imp (pss_cons h1 h2) fun E σ H q => by
  obtain ⟨F, ρ, f, ρ', s, eg, k⟩ := q
  obtain ⟨⟨f1, ρ1⟩, e1, eg1⟩ := bind_some eg
  refine ⟨F, ρ, f1, ρ1, s, e1, fun σ1 F1 H1 p1 s1 => ?_⟩
  cases f1 with
  | nx => exact ⟨F1, ρ1, f, ρ', s1, eg1, fun σ2 F2 H2 p2 s2 => fl_base (k σ2 F2 H2 (p1.trans p2) s2) fun _ => p1.none⟩
  | ret d =>
    cases eg1
    exact k σ1 F1 H1 p1 s1
  | rof d =>
    cases eg1
    exact k σ1 F1 H1 p1 s1
  | brk =>
    cases eg1
    exact k σ1 F1 H1 p1 s1
  | cnt =>
    cases eg1
    exact k σ1 F1 H1 p1 s1
theorem dss_one {g : Sd} (h1 : DS X st g) : DSs X [st] g := pss_one h1
theorem ds_pass : DS X (.Pass pos) sNext := ps_imp ps_pass fun E σ H q => by
  obtain ⟨F, ρ, f, ρ', s, eg, k⟩ := q
  cases eg
  exact k σ F H Stp.refl s
theorem ds_break : DS X (.Break pos) sBrk := ps_imp ps_break fun E σ H q => by
  obtain ⟨F, ρ, f, ρ', s, eg, k⟩ := q
  cases eg
  exact k σ F H Stp.refl s
theorem ds_cont : DS X (.Continue pos) sCnt := ps_imp ps_continue fun E σ H q => by
  obtain ⟨F, ρ, f, ρ', s, eg, k⟩ := q
  cases eg
  exact k σ F H Stp.refl s
theorem ds_if {g : Md Bool} {s1 s2 : Sd} {as bs : List Stmt} (hc : DT X c g) (ha : DSs X as s1) (hb : DSs X bs s2) : DS X (.If c as bs pos) (sIf g s1 s2) := ps_imp (ps_if hc ha hb) fun E σ H q => by
  obtain ⟨F, ρ, f, ρ', s, eg, k⟩ := q
  obtain ⟨⟨b, ρ1⟩, e1, eg1⟩ := bind_some eg
  refine ⟨F, ρ, b, ρ1, s, e1, fun F1 H1 p1 s1 => ?_⟩
  cases b with
  | true => exact ⟨F1, ρ1, f, ρ', s1, eg1, fun σ2 F2 H2 p2 s2 => fl_base (k σ2 F2 H2 (p1.trans p2) s2) fun _ => p1.none⟩
  | false => exact ⟨F1, ρ1, f, ρ', s1, eg1, fun σ2 F2 H2 p2 s2 => fl_base (k σ2 F2 H2 (p1.trans p2) s2) fun _ => p1.none⟩
theorem ds_ret {g : Md D} (h : DE X e g) : DS X (.Return (some e) pos) (sRet g) := ps_imp (ps_ret h) fun E σ H q => by
  obtain ⟨F, ρ, f, ρ', s, eg, k⟩ := q
  obtain ⟨⟨d, ρ1⟩, e1, eg1⟩ := bind_some eg
  cases eg1
  exact ⟨F, ρ, d, _, s, e1, fun v F1 H1 p1 s1 r1 => k σ F1 H1 p1 s1 v r1⟩
def sRof (g : Md D) : Sd := fun ρ => (g ρ).bind fun p => some (.rof p.1, p.2)
theorem ds_rof {g : Md D} (h : DF X e g) : DS X (.Return (some e) pos) (sRof g) := ps_imp (ps_ret h) fun E σ H q => by
  obtain ⟨F, ρ, f, ρ', s, eg, k⟩ := q
  obtain ⟨⟨d, ρ1⟩, e1, eg1⟩ := bind_some eg
  cases eg1
  exact ⟨F, ρ, d, _, s, e1, fun a F1 H1 p1 s1 o no hn => k σ F1 H1 p1 s1 a o hn⟩
theorem ds_expr {g : Md D} (h : DE X e g) (hs : swapsWith e none pos.line X.env = pure false := by rfl) : DS X (.Expr e pos) (sDrop g) := ps_imp (ps_expr h hs) fun E σ H q => by
  obtain ⟨F, ρ, f, ρ', s, eg, k⟩ := q
  obtain ⟨⟨d, ρ1⟩, e1, eg1⟩ := bind_some eg
  cases eg1
  exact ⟨F, ρ, d, _, s, e1, fun v F1 H1 p1 s1 r1 => k σ F1 H1 p1 s1⟩
theorem setC_some {i : Nat} {c : Cell} {ρ ρ' : Env} (h : setC i c ρ = some ρ') : ρ' = ρ.set i (some c) ∧ (∀ d, ρ[i]? ≠ some (some (.own true d))) ∧ ∃ o, ρ[i]? = some o := by
  unfold setC at h
  split at h
  · cases h
  · rename_i o q n
    refine ⟨(Option.some.inj h).symm, fun d z => ?_, _, n⟩
    rw [n] at z
    cases z
    exact q d rfl
  · cases h
theorem st_set {K : Kx} {F H : Hp} {σ : L2.St} {ρ ρ' : Env} {i : Nat} {c : Cell} {v : V} (s : St K F H σ ρ) (h : setC i c ρ = some ρ') (hc : CellOk K F H (some (some v)) c) (hn : ∀ f d a, c = .own f d → v = .ref a → f = false ∧ ¬ Owns σ ρ a) : St K F H (σ.set i (some v)) ρ' := by
  obtain ⟨rfl, nf, o, ho⟩ := setC_some h
  have hi : i < σ.length := by
    rw [← s.len]
    exact (List.getElem?_eq_some_iff.mp ho).1
  have hσ : (σ.set i (some v))[i]? = some (some v) := List.getElem?_set_self hi
  refine ⟨s.sub, by rw [List.length_set, List.length_set]; exact s.len, fun j cj hj => ?_, fun j l f g dj dl b h1 h2 h3 h4 => ?_⟩
  · by_cases z : j = i
    · subst z
      rw [get_set_self ho] at hj
      cases hj
      rw [hσ]
      exact hc
    · rw [get_set_ne z] at hj ⊢
      exact s.cell j cj hj
  · by_cases z1 : j = i
    · subst z1
      rw [get_set_self ho] at h1
      rw [hσ] at h3
      by_cases z2 : l = j
      · exact z2.symm
      · rw [get_set_ne z2] at h2 h4
        cases h1
        cases h3
        exact absurd ⟨l, g, dl, h2, h4⟩ (hn f dj b rfl rfl).2
    · rw [get_set_ne z1] at h1 h3
      by_cases z2 : l = i
      · subst z2
        rw [get_set_self ho] at h2
        rw [hσ] at h4
        cases h2
        cases h4
        exact absurd ⟨j, f, dj, h1, h3⟩ (hn g dl b rfl rfl).2
      · rw [get_set_ne z2] at h2 h4
        exact s.dist j l f g dj dl b h1 h2 h3 h4
theorem stp_set {F H : Hp} {σ : L2.St} {ρ ρ' : Env} {i : Nat} {c : Cell} {v : V} {H0 : Hp} {F0 : Hp} {σ0 : L2.St} {ρ0 : Env} (p : Stp F0 σ0 ρ0 H0 F σ ρ H) (h : setC i c ρ = some ρ') (hn : ∀ f d a, c = .own f d → v = .ref a → H0 a = none) : Stp F0 σ0 ρ0 H0 F (σ.set i (some v)) ρ' H := by
  obtain ⟨rfl, nf, o, ho⟩ := setC_some h
  refine ⟨p.ff, p.keep, fun b hb => ?_, fun j d hj => ?_, p.dom⟩
  · obtain ⟨j, f, dj, h1, h2⟩ := hb
    by_cases z : j = i
    · subst z
      rw [get_set_self ho] at h1
      cases h1
      have h3 : v = .ref b := by
        by_cases hl : j < σ.length
        · rw [List.getElem?_set_self hl] at h2
          exact Option.some.inj (Option.some.inj h2)
        · rw [List.getElem?_eq_none (by simpa using hl)] at h2
          cases h2
      exact .inr (hn f dj b rfl h3)
    · rw [get_set_ne z] at h1 h2
      exact p.fresh b ⟨j, f, dj, h1, h2⟩
  · obtain ⟨e1, d', e2⟩ := p.fix j d hj
    have z : j ≠ i := fun z => by
      subst z
      exact nf d' e2
    rw [get_set_ne z, get_set_ne z]
    exact ⟨e1, d', e2⟩
theorem ds_set {i : Nat} {pos' : Pos} {g : Md D} (hN : X.N.Nodup) (hi : X.N[i]? = some x) (hx : Loc X.env.scope x) (he : DE X e g) (hs : swapsWith e (some (.Name x pos')) pos.line X.env = pure false := by rfl) (hf : X.fn x = true ∨ X.env.scope.names.lookup x = some .local := by first | exact .inl rfl | exact .inr rfl | assumption) : DS X (.Assign [.Name x pos'] e pos) (sSet i g) :=
  ps_imp (ps_set hN hi hx he hs hf) fun E σ H q => by
    obtain ⟨F, ρ, f, ρ', s, eg, k⟩ := q
    obtain ⟨⟨d, ρ1⟩, e1, eg1⟩ := bind_some eg
    obtain ⟨r, e2, eg2⟩ := bind_some eg1
    cases eg2
    exact ⟨F, ρ, d, ρ1, s, e1, fun v F1 H1 p1 s1 r1 => k _ F1 H1 (stp_set p1 e2 fun _ _ _ z => nomatch z) (st_set s1 e2 ⟨v, rfl, r1⟩ fun _ _ _ z => nomatch z)⟩
theorem ds_own {i : Nat} {pos' : Pos} {g : Md D} (hN : X.N.Nodup) (hi : X.N[i]? = some x) (hx : Loc X.env.scope x) (he : DF X e g) (hs : swapsWith e (some (.Name x pos')) pos.line X.env = pure false := by rfl) (hf : X.fn x = true ∨ X.env.scope.names.lookup x = some .local := by first | exact .inl rfl | exact .inr rfl | assumption) : DS X (.Assign [.Name x pos'] e pos) (sOwn i g) :=
  ps_imp (ps_set hN hi hx he hs hf) fun E σ H q => by
    obtain ⟨F, ρ, f, ρ', s, eg, k⟩ := q
    obtain ⟨⟨d, ρ1⟩, e1, eg1⟩ := bind_some eg
    obtain ⟨r, e2, eg2⟩ := bind_some eg1
    cases eg2
    refine ⟨F, ρ, d, ρ1, s, e1, fun a F1 H1 p1 s1 o no hn => k _ F1 H1 (stp_set p1 e2 fun _ _ b _ z => ?_) (st_set s1 e2 ⟨a, rfl, o⟩ fun f _ b z1 z => ?_)⟩
    · cases z
      exact hn
    · cases z
      cases z1
      exact ⟨rfl, no⟩
/-! ### lists of one's own that are changed -/
def sApp (i : Nat) (g : Md D) : Sd := fun ρ => match ρ[i]? with
  | some (some (.own _ (.list _))) => (g ρ).bind fun p => match p.2[i]? with
    | some (some (.own b (.list ds))) => if ds.length < 16777216 then some (.nx, p.2.set i (some (.own b (.list (ds ++ [p.1]))))) else none
    | _ => none
  | _ => none
theorem own_lst {K : Kx} {F H : Hp} {a : Addr} {ds : List D} (h : OwnAt K F H a (.list ds)) : F a = none ∧ ∃ xs, H a = some (.lst xs) ∧ RpAll K F xs ds := by
  obtain ⟨f, h⟩ := h
  rcases h with ⟨xs, ds', e, hh, r⟩ | ⟨xs, es, e, _⟩
  · cases e
    exact ⟨f, xs, hh, r⟩
  · cases e
theorem own_write {K : Kx} {F H : Hp} {a : Addr} {xs : List V} {ds : List D} {o : HO} (s : Same F H) (hF : F a = none) (hH : H a = some o) (r : RpAll K F xs ds) : OwnAt K F (upd H a (.lst xs)) a (.list ds) ∧ Same F (upd H a (.lst xs)) ∧ ∀ c u, H c = some u → c ≠ a → upd H a (.lst xs) c = some u ∧ F c = F c :=
  ⟨⟨hF, .inl ⟨xs, ds, rfl, upd_same, r⟩⟩, fun c u hc => by rw [upd_ne (ne_of_none hc hF)]; exact s c u hc, fun c u hc n => ⟨by rw [upd_ne n]; exact hc, rfl⟩⟩
theorem ds_app (i : Nat) {ce : Expr} {g : Md D} (he : PE X ce (tBM (cxK X) "list" rAppend (tVar i) (tCons (tD (cxK X) g) tNil))) (hs : swapsWith ce none pos.line X.env = pure false := by rfl) : DS X (.Expr ce pos) (sApp i g) :=
  ps_imp (ps_expr he hs) fun E σ H q => by
    obtain ⟨F, ρ, f, ρ', s, eg, k⟩ := q
    unfold sApp at eg
    split at eg
    · rename_i b0 d0 h0
      obtain ⟨a, ea, o0, _⟩ := st_owned s h0
      obtain ⟨_, xs0, hx0, _⟩ := own_lst o0
      obtain ⟨⟨d, ρ1⟩, e1, eg1⟩ := bind_some eg
      simp only at eg1
      split at eg1
      · rename_i b1 ds h1
        split at eg1
        · rename_i hl
          cases eg1
          refine ⟨.ref a, ea, .inl ⟨rfl, xs0, SqL.of hx0⟩, F, ρ, d, ρ1, s, e1, fun v F1 H1 p1 s1 r1 => ?_⟩
          obtain ⟨a1, ea1, o1, _⟩ := st_owned s1 h1
          rw [ea] at ea1
          cases ea1
          obtain ⟨f1, xs, hx, rx⟩ := own_lst o1
          refine ⟨a, xs, v, rfl, rfl, hx, by rw [line_eq, da_len rx]; exact hl, ?_⟩
          obtain ⟨o2, sh, kp⟩ := own_write s1.sub f1 hx (da_app rx (.cons r1 .nil))
          obtain ⟨s2, p2⟩ := st_own_set s1 h1 ea (Same.refl _) sh kp o2
          exact k σ F1 _ (p1.trans p2) s2
        · cases eg1
      · cases eg1
    · cases eg
def ixS (n : Nat) (i : Int) : Option Nat := if 0 ≤ i then (if i < n then some i.toNat else none) else if -(n : Int) ≤ i then some (i + n).toNat else none
def sSetIx (i : Nat) (gv gi : Md D) : Sd := fun ρ => (gv ρ).bind fun p => match p.2[i]? with
  | some (some (.own _ _)) => (gi p.2).bind fun q => (iOf q.1).bind fun z => match q.2[i]? with
    | some (some (.own b (.list ds))) => (ixS ds.length z).bind fun j => some (.nx, q.2.set i (some (.own b (.list (ds.set j p.1)))))
    | _ => none
  | _ => none
theorem ds_setIx (i : Nat) {y : Str} {py tpos : Pos} {gv gi : Md D} (hN : X.N[i]? = some y) (hv : Vis X.env.scope y) (he : DE X e gv) (hi : DE X a gi) (hdy : (y == ("__debug__" : Str)) = false := by decide) (hcd : (y == ("__classdict__" : Str)) = false := by decide)
    (ha : ∀ v, assign (.Subscript (.Name y py) a tpos) X.env v = (do let ov ← holding [v] (eval (.Name y py) X.env); let iv ← holding [v, ov] (eval a X.env); standAt tpos; holding [v, ov, iv] (setItem ov iv v); release [v, ov, iv] []) := by intro _; rfl)
    (hs : swapsWithSole [.Subscript (.Name y py) a tpos] e pos.line X.env = pure false := by rfl) (hw : swappedStores [.Subscript (.Name y py) a tpos] e X.env = pure none := by rfl) : DS X (.Assign [.Subscript (.Name y py) a tpos] e pos) (sSetIx i gv gi) :=
  ps_imp (ps_asg he (pg_sub (pe_var hN hv hdy hcd) hi set_list ha) hs hw) fun E σ H q => by
    obtain ⟨F, ρ, f, ρ', s, eg, k⟩ := q
    obtain ⟨⟨d, ρ1⟩, e1, eg1⟩ := bind_some eg
    simp only at eg1
    split at eg1
    · rename_i b0 d0 h0
      obtain ⟨⟨di, ρ2⟩, e2, eg2⟩ := bind_some eg1
      obtain ⟨z, e3, eg3⟩ := bind_some eg2
      simp only at eg3
      split at eg3
      · rename_i b1 ds h1
        obtain ⟨j, e4, eg4⟩ := bind_some eg3
        cases eg4
        have e5 := iOf_some e3
        simp only at e5
        subst e5
        refine ⟨F, ρ, d, ρ1, s, e1, fun v F1 H1 p1 s1 r1 => ?_⟩
        obtain ⟨a0, ea, o0, _⟩ := st_owned s1 h0
        refine ⟨.ref a0, ea, F1, ρ1, _, ρ2, s1, e2, fun u F2 H2 p2 s2 r2 => ?_⟩
        cases r2
        obtain ⟨a1, ea1, o1, _⟩ := st_owned s2 h1
        rw [ea] at ea1
        cases ea1
        obtain ⟨f1, xs, hx, rx⟩ := own_lst o1
        refine ⟨a0, xs, z, j, rfl, rfl, hx, by rw [da_len rx]; exact e4, ?_⟩
        obtain ⟨o2, sh, kp⟩ := own_write s2.sub f1 hx (da_set (dp_mono p2.ff _ _ r1) j rx)
        obtain ⟨s3, p3⟩ := st_own_set s2 h1 ea (Same.refl _) sh kp o2
        exact k σ F2 _ (p1.trans (p2.trans p3)) s3
      · cases eg3
    · cases eg1
end
end Dn
set_option maxHeartbeats 2000000
/-! targets, loops, comprehensions, defs -/
namespace Dn
open PySem PySem.Spec PyProof.Rows L2

section
variable {X : Cx} {e a b c tg iter : Expr} {es : List Expr} {pos p : Pos} {x : Str}

/-! ### targets -/
def gTN (i : Nat) : D → Env → Option Env := fun d ρ => setC i (.val d) ρ
def tDGs (K : Kx) (is : List Nat) (g : List D → Env → Option Env) : TGs := fun vs σ H Q => ∃ (F : Hp) (ρ : Env) (ds : List D) (ρ' : Env), St K F H σ ρ ∧ RpAll K F vs ds ∧ g ds ρ = some ρ' ∧
  ∀ σ' F' H', Stp F σ ρ H F' σ' ρ' H' → St K F' H' σ' ρ' → (σ'.length = σ.length ∧ ∀ j, j ∉ is → σ'[j]? = σ[j]?) → Q σ' H'
abbrev DGs (X : Cx) (es : List Expr) (is : List Nat) (g : List D → Env → Option Env) : Prop := PGs X es (tDGs (cxK X) is g)
theorem pgs_imp {X : Cx} {e : List Expr} {t t' : TGs} (h : PGs X e t) (i : ∀ v σ H Q, t' v σ H Q → t v σ H Q) : PGs X e t' := ⟨fun pins s σ H v u Q I r q => h.run pins s σ H v u Q I r (i v σ H Q q)⟩
theorem dg_name {i : Nat} (hN : X.N.Nodup) (hi : X.N[i]? = some x) (hx : Loc X.env.scope x) (hf : X.fn x = true ∨ X.env.scope.names.lookup x = some .local := by first | exact .inl rfl | exact .inr rfl | assumption) : DG X (.Name x pos) [i] (gTN i) :=
  pg_imp (pg_name hN hi hx hf) fun v σ H Q q => by
    obtain ⟨F, ρ, d, ρ', s, hd, eg, k⟩ := q
    exact k _ F H (stp_set Stp.refl eg fun _ _ _ z => nomatch z) (st_set s eg ⟨v, rfl, hd⟩ fun _ _ _ z => nomatch z) ⟨List.length_set, fun j hj => get_set_ne (by simpa using hj)⟩
def gTNil : List D → Env → Option Env
  | [], ρ => some ρ
  | _ :: _, _ => none
def gTCons (g : D → Env → Option Env) (gs : List D → Env → Option Env) : List D → Env → Option Env
  | d :: ds, ρ => (g d ρ).bind fun ρ1 => gs ds ρ1
  | [], _ => none
def gTTup (n : Nat) (gs : List D → Env → Option Env) : D → Env → Option Env
  | .tuple ds, ρ => if ds.length = n then gs ds ρ else none
  | _, _ => none
theorem dgs_nil : DGs X [] [] gTNil := pgs_imp pgs_nil fun vs σ H Q q => by
  obtain ⟨F, ρ, ds, ρ', s, hd, eg, k⟩ := q
  cases hd with
  | nil =>
    cases eg
    exact ⟨rfl, k σ F H Stp.refl s ⟨rfl, fun _ _ => rfl⟩⟩
  | cons _ _ => cases eg
theorem dgs_cons {is js : List Nat} {g : D → Env → Option Env} {gs : List D → Env → Option Env} (h1 : DG X e is g) (h2 : DGs X es js gs) (hs : (assignEach (e :: es) X.env).map (·.2) = assign e X.env :: (assignEach es X.env).map (·.2) := by rfl) : DGs X (e :: es) (is ++ js) (gTCons g gs) :=
  pgs_imp (pgs_cons h1 h2 hs) fun vs σ H Q q => by
    obtain ⟨F, ρ, ds, ρ', s, hd, eg, k⟩ := q
    cases hd with
    | nil => cases eg
    | cons r rs =>
      obtain ⟨ρ1, e1, eg1⟩ := bind_some eg
      exact ⟨_, _, rfl, F, ρ, _, ρ1, s, r, e1, fun σ1 F1 H1 p1 s1 w1 => ⟨F1, ρ1, _, ρ', s1, dpAll_mono p1.ff _ _ rs, eg1, fun σ2 F2 H2 p2 s2 w2 => k σ2 F2 H2 (p1.trans p2) s2 ⟨w2.1.trans w1.1, fun j hj => by
        rw [List.mem_append, not_or] at hj
        exact (w2.2 j hj.2).trans (w1.2 j hj.1)⟩⟩⟩
theorem dg_tup {k : Nat} {is : List Nat} {gs : List D → Env → Option Env} {n : Nat} (hc : X.calm = true) (h : DGs X es is gs) (hn : (assignEach es X.env).length = n := by rfl) (hst : (assignEach es X.env).findIdx? (·.1) = none := by rfl) : DG X (.Tuple es k pos) is (gTTup n gs) :=
  pg_imp (pg_tup hc h hn hst) fun v σ H Q q => by
    obtain ⟨F, ρ, d, ρ', s, hd, eg, k⟩ := q
    cases d with
    | tuple ds =>
      have eg' : (if ds.length = n then gs ds ρ else none) = some ρ' := eg
      split at eg'
      · rename_i hl
        cases hd with
        | @tup a vs _ h1 d1 => exact ⟨a, vs, rfl, seqT_same s.sub h1, by rw [da_len d1]; exact hl, F, ρ, ds, ρ', s, d1, eg', k⟩
      · cases eg'
    | none => cases eg
    | bool _ => cases eg
    | int _ => cases eg
    | str _ => cases eg
    | list _ => cases eg
    | dict _ => cases eg
def sAsg (g : Md D) (t : D → Env → Option Env) : Sd := fun ρ => (g ρ).bind fun p => (t p.1 p.2).bind fun r => some (.nx, r)
theorem ds_asg {is : List Nat} {g : Md D} {t : D → Env → Option Env} {st : Stmt} (h : PS X st (tAsg (tD (cxK X) g) (tDG (cxK X) is t))) : DS X st (sAsg g t) :=
  ps_imp h fun E σ H q => by
    obtain ⟨F, ρ, f, ρ', s, eg, k⟩ := q
    obtain ⟨⟨d, ρ1⟩, e1, eg1⟩ := bind_some eg
    obtain ⟨r, e2, eg2⟩ := bind_some eg1
    cases eg2
    exact ⟨F, ρ, d, ρ1, s, e1, fun v F1 H1 p1 s1 r1 => ⟨F1, ρ1, d, _, s1, r1, e2, fun σ2 F2 H2 p2 s2 _ => k σ2 F2 H2 (p1.trans p2) s2⟩⟩

/-! ### what is walked -/
def ItOk (K : Kx) (F : Hp) (J : It) (ds : List D) : Prop := ∀ F1 H, Same F F1 → Same F1 H → ∀ i, (∀ d, ds[i]? = some d → J.go i H ∧ ∀ x H', J.yld i H x H' → ∃ F', Grow F1 H F' H' ∧ Rp K F' x d) ∧ (ds.length ≤ i → J.stop i H)
def tDI (K : Kx) (g : Md (List D)) : TI := fun σ H R => ∃ (F : Hp) (ρ : Env) (ds : List D) (ρ' : Env), St K F H σ ρ ∧ g ρ = some (ds, ρ') ∧
  ∀ J F' H', Stp F σ ρ H F' σ ρ' H' → St K F' H' σ ρ' → ItOk K F' J ds → R J H'
abbrev DI (X : Cx) (tg e : Expr) (g : Md (List D)) : Prop := PI X tg e (tDI (cxK X) g)
theorem pi_imp {X : Cx} {tg e : Expr} {t t' : TI} (h : PI X tg e t) (i : ∀ σ H Q, t' σ H Q → t σ H Q) : PI X tg e t' := ⟨fun pins s σ H Q I q => h.run pins s σ H Q I (i σ H Q q)⟩
def signsL (x : Str) : List D := x.cps.toList.map fun c => .str ⟨#[c]⟩
def seqOf : D → Option (List D)
  | .list ds => some ds
  | .tuple ds => some ds
  | .str x => some (signsL x)
  | _ => none
def gSeq (g : Md D) : Md (List D) := fun ρ => (g ρ).bind fun p => (seqOf p.1).bind fun ds => some (ds, p.2)
def iSeq (K : Kx) (tl : TE) : TI := fun σ H R => tl σ H fun v H1 => (∃ x, v = .str x ∧ R (Its x) H1) ∨ ∃ a, v = .ref a ∧ (((∃ xs, SqL K H1 a xs) ∧ R (Itl K a) H1) ∨ ((∃ xs, SqT K H1 a xs) ∧ R (Itt K a) H1))
theorem pi_seq {l : Expr} {tl : TE} (hl : PE X l tl) : PI X tg l (iSeq (cxK X) tl) := by
  refine ⟨fun pins s σ H R I h => ?_⟩
  refine thn (hl.run pins s σ H _ I h) fun v s1 ⟨y, H1, I1, r1, q1⟩ => ?_
  rcases q1 with ⟨x, ex, q⟩ | ⟨a, e, q⟩
  · subst ex
    obtain ⟨t, rfl⟩ := r1
    cases ha : x.cps.all (· < 128)
    · exact wpAny_pyIter_wide ha (pi_one (tk := s1.toks) I1 _ (turn_str _ x t "str_iterator" (.inr rfl)) ⟨_, Heap.get?_push_size _ rfl, rfl, rfl⟩ q)
    · exact wpAny_pyIter_ascii ha (pi_one (tk := s1.toks) I1 _ (turn_str _ x t "str_ascii_iterator" (.inl rfl)) ⟨_, Heap.get?_push_size _ rfl, rfl, rfl⟩ q)
  subst e
  cases r1
  have fp : ∀ b ∈ [s1.heap.objs.size], FpOk X pins H1 b := fun b hb => by
    have e : b = s1.heap.objs.size := by simpa using hb
    subst e
    exact I1.fpOk (Nat.le_refl _) (I1.hok.fresh (Nat.le_refl _))
  rcases q with ⟨⟨xs, hq⟩, q⟩ | ⟨⟨xs, hq⟩, q⟩
  · obtain ⟨its, rv, p, hz⟩ := I1.list hq
    refine wpAny_pyIter_list p.isList ?_
    exact ⟨s1.heap.objs.size, [s1.heap.objs.size], _, _, H1, rfl, I1.kept (t' := s1.toks) fun b o e => Heap.get?_push_of_some _ e, turn_list a _, ⟨_, Heap.get?_push_size _ rfl, rfl, rfl⟩, fp, q⟩
  · obtain ⟨its, rv, p, hz⟩ := I1.tuple hq
    refine wpAny_pyIter_tuple (show s1.heap.IsTuple a its.toArray from p) ?_
    exact ⟨s1.heap.objs.size, [s1.heap.objs.size], _, _, H1, rfl, I1.kept (t' := s1.toks) fun b o e => Heap.get?_push_of_some _ e, turn_tuple a _, ⟨_, Heap.get?_push_size _ rfl, rfl, rfl⟩, fp, q⟩
theorem it_str {K : Kx} {F : Hp} {x : Str} : ItOk K F (Its x) (signsL x) := fun F1 H s1 s2 i => by
  have hl : (signsL x).length = x.cps.size := by simp [signsL]
  refine ⟨fun d e => ?_, fun h => by rw [hl] at h; exact h⟩
  have hi : i < x.cps.size := by
    have := (List.getElem?_eq_some_iff.mp e).1
    rw [hl] at this
    exact this
  refine ⟨hi, fun y H' hy => ?_⟩
  obtain ⟨rfl, c, hc, rfl⟩ := hy
  have e2 : d = .str ⟨#[c]⟩ := by
    unfold signsL at e
    rw [List.getElem?_map, Array.getElem?_toList, hc] at e
    exact (Option.some.inj e).symm
  subst e2
  exact ⟨F1, Grow.refl s2, .str _⟩
theorem it_list {K : Kx} {F : Hp} {a : Addr} {vs : List V} {ds : List D} (h : SqL K F a vs) (r : RpAll K F vs ds) : ItOk K F (Itl K a) ds := fun F1 H s1 s2 i => by
  have hH := (s1.trans s2).seq h
  refine ⟨fun d e => ?_, fun hl => ⟨vs, hH, by rw [da_len r]; exact hl⟩⟩
  obtain ⟨v, e1, rv⟩ := da_at r e
  refine ⟨⟨vs, v, hH, e1⟩, fun y H' hy => ?_⟩
  obtain ⟨rfl, hy⟩ := hy
  have e2 := (hy vs hH).symm.trans e1
  cases e2
  exact ⟨F1, Grow.refl s2, dp_mono s1 _ _ rv⟩
theorem it_tup {K : Kx} {F : Hp} {a : Addr} {vs : List V} {ds : List D} (h : SqT K F a vs) (r : RpAll K F vs ds) : ItOk K F (Itt K a) ds := fun F1 H s1 s2 i => by
  have hH := seqT_same (s1.trans s2) h
  refine ⟨fun d e => ?_, fun hl => ⟨vs, hH, by rw [da_len r]; exact hl⟩⟩
  obtain ⟨v, e1, rv⟩ := da_at r e
  refine ⟨⟨vs, v, hH, e1⟩, fun y H' hy => ?_⟩
  obtain ⟨rfl, hy⟩ := hy
  have e2 := (hy vs hH).symm.trans e1
  cases e2
  exact ⟨F1, Grow.refl s2, dp_mono s1 _ _ rv⟩
theorem di_seq {g : Md D} (h : DE X e g) : DI X tg e (gSeq g) := pi_imp (pi_seq h) fun σ H R q => by
  obtain ⟨F, ρ, ds, ρ', s, eg, k⟩ := q
  obtain ⟨⟨d, ρ1⟩, e1, eg1⟩ := bind_some eg
  obtain ⟨z, e2, eg2⟩ := bind_some eg1
  cases eg2
  refine ⟨F, ρ, d, _, s, e1, fun v F1 H1 p1 s1 r1 => ?_⟩
  cases d with
  | list xs =>
    cases e2
    cases r1 with
    | @lst a vs _ h1 d1 => exact .inr ⟨a, rfl, .inl ⟨⟨vs, s1.sub.seq h1⟩, k _ F1 H1 p1 s1 (it_list h1 d1)⟩⟩
  | tuple xs =>
    cases e2
    cases r1 with
    | @tup a vs _ h1 d1 => exact .inr ⟨a, rfl, .inr ⟨⟨vs, seqT_same s1.sub h1⟩, k _ F1 H1 p1 s1 (it_tup h1 d1)⟩⟩
  | none => cases e2
  | bool _ => cases e2
  | int _ => cases e2
  | str z =>
    cases e2
    cases r1
    exact .inl ⟨z, rfl, k _ F1 H1 p1 s1 it_str⟩
  | dict _ => cases e2
/-- range(a), range(a, b) -/
def rngL (lo : Int) (n : Nat) : List D := (List.range n).map fun i : Nat => .int (lo + i)
def small62 (j : Int) : Bool := decide (-(2 ^ 62) ≤ j ∧ j < 2 ^ 62)
def gRng1 (gs : Md (List D)) : Md (List D) := fun ρ => (gs ρ).bind fun p => match p.1 with
  | [.int j] => if small62 j = true then some (rngL 0 j.toNat, p.2) else none
  | _ => none
def gRng2 (gs : Md (List D)) : Md (List D) := fun ρ => (gs ρ).bind fun p => match p.1 with
  | [.int i, .int j] => if small62 i = true ∧ small62 j = true then some (rngL i (j - i).toNat, p.2) else none
  | _ => none
theorem it_rng {K : Kx} {F : Hp} {lo : Int} {n : Nat} : ItOk K F (Itr lo n) (rngL lo n) := fun F1 H s1 s2 i => by
  have hl : (rngL lo n).length = n := by simp [rngL]
  refine ⟨fun d e => ?_, fun h => by rw [hl] at h; exact h⟩
  have hi : i < n := by
    have := (List.getElem?_eq_some_iff.mp e).1
    rw [hl] at this
    exact this
  have ed : d = .int (lo + i) := by
    unfold rngL at e
    rw [List.getElem?_map, List.getElem?_range hi] at e
    exact (Option.some.inj e).symm
  subst ed
  refine ⟨hi, fun y H' hy => ?_⟩
  obtain ⟨rfl, rfl⟩ := hy
  exact ⟨F1, Grow.refl s2, .int _⟩
theorem di_rng1 {gs : Md (List D)} {p pos : Pos} (hg : Gl X "range") (hm : X.mg "range" = none) (ha : DA X [a] gs) (hs : starEach [a] X.env = [(false, eval a X.env)] := by rfl) : DI X tg (.Call (.Name "range" p) [a] [] pos) (gRng1 gs) :=
  pi_imp (pi_range1 hg hm ha hs) fun σ H R q => by
    obtain ⟨F, ρ, ds, ρ', s, eg, k⟩ := q
    obtain ⟨⟨d, ρ1⟩, e1, eg1⟩ := bind_some eg
    simp only at eg1
    split at eg1
    · rename_i j
      split at eg1
      · rename_i hj
        cases eg1
        have hj' := of_decide_eq_true hj
        refine ⟨F, ρ, _, _, s, e1, fun vs F1 H1 p1 s1 r1 => ?_⟩
        obtain ⟨v, rfl, rv⟩ := da1 r1
        cases rv
        exact ⟨j, rfl, hj'.1, hj'.2, k _ F1 H1 p1 s1 it_rng⟩
      · cases eg1
    · cases eg1
theorem di_rng2 {gs : Md (List D)} {p pos : Pos} (hg : Gl X "range") (hm : X.mg "range" = none) (ha : DA X [a, b] gs) (hs : starEach [a, b] X.env = [(false, eval a X.env), (false, eval b X.env)] := by rfl) (hs2 : starEach [b] X.env = [(false, eval b X.env)] := by rfl) : DI X tg (.Call (.Name "range" p) [a, b] [] pos) (gRng2 gs) :=
  pi_imp (pi_range2 hg hm ha hs hs2) fun σ H R q => by
    obtain ⟨F, ρ, ds, ρ', s, eg, k⟩ := q
    obtain ⟨⟨d, ρ1⟩, e1, eg1⟩ := bind_some eg
    simp only at eg1
    split at eg1
    · rename_i i j
      split at eg1
      · rename_i hj
        cases eg1
        have hi' := of_decide_eq_true hj.1
        have hj' := of_decide_eq_true hj.2
        refine ⟨F, ρ, _, _, s, e1, fun vs F1 H1 p1 s1 r1 => ?_⟩
        obtain ⟨v, w, rfl, rv, rw'⟩ := da2 r1
        cases rv
        cases rw'
        exact ⟨i, j, rfl, ⟨hi'.1, hi'.2, hj'.1, hj'.2⟩, k _ F1 H1 p1 s1 it_rng⟩
      · cases eg1
    · cases eg1

/-! ### for, while -/
def forD (tg : D → Env → Option Env) (body : Sd) : List D → Sd
  | [] => fun ρ => some (.nx, ρ)
  | d :: ds => fun ρ => (tg d ρ).bind fun ρ1 => (body ρ1).bind fun p => match p.1 with
    | .nx => forD tg body ds p.2
    | .cnt => forD tg body ds p.2
    | .brk => some (.nx, p.2)
    | .ret r => some (.ret r, p.2)
    | .rof r => some (.rof r, p.2)
def sFor (gi : Md (List D)) (tg : D → Env → Option Env) (body : Sd) : Sd := fun ρ => (gi ρ).bind fun p => forD tg body p.1 p.2
theorem drop_cons {α : Type} {l : List α} {i : Nat} {d : α} (h : l[i]? = some d) : l.drop i = d :: l.drop (i + 1) := by
  obtain ⟨hl, e⟩ := List.getElem?_eq_some_iff.mp h
  rw [List.drop_eq_getElem_cons hl, e]
theorem ds_for {gi : Md (List D)} {gt : D → Env → Option Env} {gb : Sd} {body : List Stmt} (hp : PassesOwn (model X.prog X.w) X.A X.env X.xe) (hc : X.calm = true) (hi : DI X tg iter gi) {is : List Nat} (hg : DG X tg is gt) (hb : DSs X body gb) (hs : ∀ x, foldedSetIterable iter X.env x = pure x := by intro _; rfl) : DS X (.For tg iter body [] pos) (sFor gi gt gb) :=
  ps_imp (ps_for hp hc hi hg hb hs) fun E σ H q => by
    obtain ⟨F, ρ, f, ρ', s, eg, k⟩ := q
    obtain ⟨⟨ds, ρ1⟩, e1, eg1⟩ := bind_some eg
    refine ⟨F, ρ, ds, ρ1, s, e1, fun J F1 H1 p1 s1 ok => ?_⟩
    refine ⟨fun i m σi Hi => ∃ Fi ρi, m = ds.length - i ∧ i ≤ ds.length ∧ Stp F σ ρ H Fi σi ρi Hi ∧ St (cxK X) Fi Hi σi ρi ∧ Same F1 Fi ∧ forD gt gb (ds.drop i) ρi = some (f, ρ'), ⟨ds.length, F1, ρ1, by simp, Nat.zero_le _, p1, s1, Same.refl _, by simpa using eg1⟩, ?_⟩
    rintro i m σi Hi ⟨Fi, ρi, rfl, hi, pi, si, sf, ei⟩
    by_cases hlt : i < ds.length
    · have hd : ds[i]? = some ds[i] := List.getElem?_eq_getElem hlt
      obtain ⟨ok1, _⟩ := ok Fi Hi sf si.sub i
      obtain ⟨go, yl⟩ := ok1 _ hd
      rw [drop_cons hd] at ei
      obtain ⟨ρ2, e2, ei1⟩ := bind_some ei
      obtain ⟨⟨f3, ρ3⟩, e3, ei2⟩ := bind_some ei1
      refine .inr ⟨go, fun σ' H' => ∃ F' ρ'', Stp F σ ρ H F' σ' ρ'' H' ∧ St (cxK X) F' H' σ' ρ'' ∧ Same F1 F' ∧ forD gt gb (ds.drop (i + 1)) ρ'' = some (f, ρ'), fun σ' H' ⟨F', ρ'', h1, h2, h3, h4⟩ => ⟨ds.length - (i + 1), by omega, F', ρ'', rfl, hlt, h1, h2, h3, h4⟩, fun v H' hy => ?_⟩
      obtain ⟨F', gr, rv⟩ := yl v H' hy
      have p' := pi.trans (gr.stp σi ρi)
      refine ⟨F', ρi, _, ρ2, si.grow gr, rv, e2, fun σ2 F2 H2 p2 s2 _ => ⟨F2, ρ2, f3, ρ3, s2, e3, fun σ3 F3 H3 p3 s3 => ?_⟩⟩
      have pp := p'.trans (p2.trans p3)
      have sff := sf.trans (gr.ff.trans (p2.ff.trans p3.ff))
      cases f3 with
      | nx => exact ⟨F3, ρ3, pp, s3, sff, ei2⟩
      | cnt => exact ⟨F3, ρ3, pp, s3, sff, ei2⟩
      | brk =>
        cases ei2
        exact k σ3 F3 H3 pp s3
      | ret r =>
        cases ei2
        exact k σ3 F3 H3 pp s3
      | rof r =>
        cases ei2
        exact fl_base (k σ3 F3 H3 pp s3) fun _ n => p'.none (p2.none n)
    · have hl : i = ds.length := by omega
      obtain ⟨_, st⟩ := ok Fi Hi sf si.sub i
      rw [List.drop_of_length_le (by omega)] at ei
      cases ei
      exact .inl ⟨st (by omega), k σi Fi Hi pi si⟩
def whileD (c : Md Bool) (body : Sd) : Nat → Sd
  | 0 => fun _ => none
  | n + 1 => fun ρ => (c ρ).bind fun q => if q.1 = true then (body q.2).bind fun p => match p.1 with
    | .nx => whileD c body n p.2
    | .cnt => whileD c body n p.2
    | .brk => some (.nx, p.2)
    | .ret r => some (.ret r, p.2)
    | .rof r => some (.rof r, p.2) else some (.nx, q.2)
theorem ds_while (n : Nat) {gc : Md Bool} {gb : Sd} {body : List Stmt} (hp : PassesOwn (model X.prog X.w) X.A X.env X.xe) (hc : DT X c gc) (hb : DSs X body gb) : DS X (.While c body [] pos) (whileD gc gb n) :=
  ps_imp (ps_while hp hc hb) fun E σ H q => by
    obtain ⟨F, ρ, f, ρ', s, eg, k⟩ := q
    refine ⟨fun m σi Hi => ∃ Fi ρi, Stp F σ ρ H Fi σi ρi Hi ∧ St (cxK X) Fi Hi σi ρi ∧ whileD gc gb m ρi = some (f, ρ'), ⟨n, F, ρ, Stp.refl, s, eg⟩, ?_⟩
    rintro m σi Hi ⟨Fi, ρi, pi, si, ei⟩
    cases m with
    | zero => cases ei
    | succ m =>
      obtain ⟨⟨b, ρ1⟩, e1, ei1⟩ := bind_some ei
      refine ⟨Fi, ρi, b, ρ1, si, e1, fun F1 H1 p1 s1 => ?_⟩
      cases b with
      | false =>
        rw [if_neg Bool.false_ne_true] at ei1 ⊢
        cases ei1
        exact k σi F1 H1 (pi.trans p1) s1
      | true =>
        rw [if_pos rfl] at ei1 ⊢
        obtain ⟨⟨f3, ρ3⟩, e3, ei2⟩ := bind_some ei1
        refine ⟨fun σ' H' => ∃ F' ρ'', Stp F σ ρ H F' σ' ρ'' H' ∧ St (cxK X) F' H' σ' ρ'' ∧ whileD gc gb m ρ'' = some (f, ρ'), fun σ' H' ⟨F', ρ'', h1, h2, h3⟩ => ⟨m, Nat.lt_succ_self _, F', ρ'', h1, h2, h3⟩, F1, ρ1, f3, ρ3, s1, e3, fun σ3 F3 H3 p3 s3 => ?_⟩
        have pp := pi.trans (p1.trans p3)
        cases f3 with
        | nx => exact ⟨F3, ρ3, pp, s3, ei2⟩
        | cnt => exact ⟨F3, ρ3, pp, s3, ei2⟩
        | brk =>
          cases ei2
          exact k σ3 F3 H3 pp s3
        | ret r =>
          cases ei2
          exact k σ3 F3 H3 pp s3
        | rof r =>
          cases ei2
          exact fl_base (k σ3 F3 H3 pp s3) fun _ n => pi.none (p1.none n)

/-! ### comprehensions -/
def wipeE (ρ : Env) : List Nat → Env
  | [] => ρ
  | v :: vs => (wipeE ρ vs).set v none
def notOwn (ρ : Env) (i : Nat) : Bool := match ρ[i]? with
  | some (some (.own _ _)) => false
  | _ => true
def backE (ρ0 : Env) : List Nat → Env → Env
  | [], ρ => ρ
  | v :: vs, ρ => match ρ0[v]? with
    | some o => (backE ρ0 vs ρ).set v o
    | none => backE ρ0 vs ρ
def lcD (vs : List Nat) (tg : D → Env → Option Env) (tt : Md Bool) (te : Md D) : List D → Env → Option (List D × Env)
  | [], ρ => some ([], ρ)
  | d :: ds, ρ => (tg d ρ).bind fun ρ1 => (tt ρ1).bind fun p => if p.1 = true then (te p.2).bind fun q => (lcD vs tg tt te ds (wipeE q.2 vs)).bind fun r => some (q.1 :: r.1, r.2) else lcD vs tg tt te ds (wipeE p.2 vs)
def gLc (vs : List Nat) (gi : Md (List D)) (tg : D → Env → Option Env) (tt : Md Bool) (te : Md D) : Md D := fun ρ => (gi ρ).bind fun p =>
  if p.1.length ≤ 16777216 ∧ vs.all (notOwn p.2) = true then (lcD vs tg tt te p.1 (wipeE p.2 vs)).bind fun r => some (.list r.1, backE p.2 vs r.2) else none
def gTrue : Md Bool := fun ρ => some (true, ρ)
theorem wipeE_out {ρ : Env} {i : Nat} : ∀ {vs : List Nat}, i ∉ vs → (wipeE ρ vs)[i]? = ρ[i]?
  | [], _ => rfl
  | v :: vs, h => by
    unfold wipeE
    rw [List.getElem?_set_ne (fun z => h (by rw [z]; exact List.mem_cons_self)), wipeE_out fun z => h (List.mem_cons_of_mem _ z)]
theorem wipeE_in {ρ : Env} {i : Nat} {c : Cell} : ∀ {vs : List Nat}, (wipeE ρ vs)[i]? = some (some c) → i ∉ vs
  | [], _ => by simp
  | v :: vs, h => by
    unfold wipeE at h
    by_cases z : v = i
    · subst z
      by_cases hl : v < (wipeE ρ vs).length
      · rw [List.getElem?_set_self hl] at h
        cases h
      · rw [List.getElem?_eq_none (by simpa using hl)] at h
        cases h
    · rw [List.getElem?_set_ne z] at h
      have := wipeE_in h
      simp only [List.mem_cons, not_or]
      exact ⟨fun y => z y.symm, this⟩
theorem wipeE_len (ρ : Env) : ∀ vs : List Nat, (wipeE ρ vs).length = ρ.length
  | [] => rfl
  | v :: vs => by
    unfold wipeE
    rw [List.length_set, wipeE_len ρ vs]
theorem wipeE_cell {ρ : Env} {vs : List Nat} {i : Nat} {c : Cell} (h : (wipeE ρ vs)[i]? = some (some c)) : ρ[i]? = some (some c) ∧ i ∉ vs := by
  have n := wipeE_in h
  rw [wipeE_out n] at h
  exact ⟨h, n⟩
theorem backE_len (ρ0 ρ : Env) : ∀ vs : List Nat, (backE ρ0 vs ρ).length = ρ.length
  | [] => rfl
  | v :: vs => by
    unfold backE
    split
    · rw [List.length_set, backE_len ρ0 ρ vs]
    · exact backE_len ρ0 ρ vs
theorem backE_out {ρ0 ρ : Env} {i : Nat} : ∀ {vs : List Nat}, i ∉ vs → (backE ρ0 vs ρ)[i]? = ρ[i]?
  | [], _ => rfl
  | v :: vs, h => by
    unfold backE
    have h1 : i ∉ vs := fun z => h (List.mem_cons_of_mem _ z)
    split
    · rw [List.getElem?_set_ne (fun z => h (by rw [z]; exact List.mem_cons_self)), backE_out h1]
    · exact backE_out h1
theorem backE_in {ρ0 ρ : Env} {i : Nat} (hl : ρ.length = ρ0.length) : ∀ {vs : List Nat}, i ∈ vs → (backE ρ0 vs ρ)[i]? = ρ0[i]?
  | [], h => by simp at h
  | v :: vs, h => by
    unfold backE
    by_cases z : v = i
    · subst z
      split
      · rename_i o e
        rw [List.getElem?_set_self (by rw [backE_len, hl]; exact (List.getElem?_eq_some_iff.mp e).1), e]
      · rename_i e
        have hl2 : ρ0.length ≤ v := List.getElem?_eq_none_iff.mp e
        rw [e]
        exact List.getElem?_eq_none (by rw [backE_len, hl]; exact hl2)
    · have h1 : i ∈ vs := (List.mem_cons.mp h).resolve_left fun y => z y.symm
      split
      · rw [List.getElem?_set_ne z, backE_in hl h1]
      · exact backE_in hl h1
theorem wipe_out' {σ : L2.St} {i : Nat} {vs : List Nat} (h : i ∉ vs) : (wipe σ vs)[i]? = σ[i]? := wipe_out h
theorem st_wipe {K : Kx} {F H : Hp} {σ : L2.St} {ρ : Env} (s : St K F H σ ρ) (vs : List Nat) : St K F H (wipe σ vs) (wipeE ρ vs) where
  sub := s.sub
  len := by rw [wipeE_len, wipe_length]; exact s.len
  cell := fun i c e => by
    obtain ⟨e1, n⟩ := wipeE_cell e
    rw [wipe_out' n]
    exact s.cell i c e1
  dist := fun i j f g d e a h1 h2 h3 h4 => by
    obtain ⟨e1, n1⟩ := wipeE_cell h1
    obtain ⟨e2, n2⟩ := wipeE_cell h2
    rw [wipe_out' n1] at h3
    rw [wipe_out' n2] at h4
    exact s.dist i j f g d e a e1 e2 h3 h4
theorem not_own {ρ : Env} {vs : List Nat} (h : vs.all (notOwn ρ) = true) {i : Nat} (hi : i ∈ vs) {f : Bool} {d : D} : ρ[i]? ≠ some (some (.own f d)) := fun e => by
  have z := List.all_eq_true.mp h i hi
  unfold notOwn at z
  rw [e] at z
  cases z
theorem stp_wipe {F0 F : Hp} {σ0 σ : L2.St} {ρ0 ρ : Env} {H0 H : Hp} (p : Stp F0 σ0 ρ0 H0 F σ ρ H) {vs : List Nat} (hn : ∀ i d, ρ0[i]? = some (some (.own true d)) → i ∉ vs) : Stp F0 σ0 ρ0 H0 F (wipe σ vs) (wipeE ρ vs) H where
  ff := p.ff
  keep := p.keep
  fresh := fun b hb => by
    obtain ⟨i, f, d, e1, e2⟩ := hb
    obtain ⟨e3, n⟩ := wipeE_cell e1
    rw [wipe_out' n] at e2
    exact p.fresh b ⟨i, f, d, e3, e2⟩
  fix := fun i d h => by
    obtain ⟨e1, d', e2⟩ := p.fix i d h
    have n := hn i d h
    rw [wipe_out' n, wipeE_out n]
    exact ⟨e1, d', e2⟩
  dom := p.dom
theorem st_side {K : Kx} {F H : Hp} {σ : L2.St} {ρ : Env} {b : Addr} {o : HO} (s : St K F H σ ρ) (hF : F b = none) (n : ¬ Owns σ ρ b) : St K F (upd H b o) σ ρ where
  sub := fun c u h => by rw [upd_ne (fun z => by subst z; rw [hF] at h; cases h)]; exact s.sub c u h
  len := s.len
  cell := fun i c e => by
    have q := s.cell i c e
    cases c with
    | val d => exact q
    | own f d =>
      obtain ⟨a, e1, f0, ow⟩ := q
      refine ⟨a, e1, f0, ow.mono (Same.refl _) fun o e3 => ?_⟩
      rw [upd_ne (fun z => n (by subst z; exact ⟨i, f, d, e, e1⟩))]
      exact e3
  dist := s.dist
theorem stp_side {F0 F : Hp} {σ0 σ : L2.St} {ρ0 ρ : Env} {H0 H : Hp} (p : Stp F0 σ0 ρ0 H0 F σ ρ H) {b : Addr} {o : HO} (hb : H0 b = none) : Stp F0 σ0 ρ0 H0 F σ ρ (upd H b o) :=
  ⟨p.ff, fun c u h n => by rw [upd_ne (ne_of_none h hb)]; exact p.keep c u h n, p.fresh, p.fix, fun c u h => by rw [upd_ne (ne_of_none h hb)]; exact p.dom c u h⟩
theorem stp_back {F0 F : Hp} {σ : L2.St} {ρ0 ρ : Env} {H0 H : Hp} {vs : List Nat} (p : Stp F0 σ ρ0 H0 F (wipe σ vs) ρ H) (hl : ρ.length = ρ0.length) (hn : vs.all (notOwn ρ0) = true) : Stp F0 σ ρ0 H0 F σ (backE ρ0 vs ρ) H ∧ ∀ b, Owns σ (backE ρ0 vs ρ) b → Owns (wipe σ vs) ρ b := by
  have sub : ∀ b, Owns σ (backE ρ0 vs ρ) b → Owns (wipe σ vs) ρ b := fun b hb => by
    obtain ⟨i, f, d, e1, e2⟩ := hb
    by_cases hi : i ∈ vs
    · rw [backE_in hl hi] at e1
      exact absurd e1 (not_own hn hi)
    · rw [backE_out hi] at e1
      exact ⟨i, f, d, e1, by rw [wipe_out' hi]; exact e2⟩
  refine ⟨⟨p.ff, p.keep, fun b hb => p.fresh b (sub b hb), fun i d h => ?_, p.dom⟩, sub⟩
  have hi : i ∉ vs := fun z => not_own hn z h
  obtain ⟨e1, d', e2⟩ := p.fix i d h
  exact ⟨rfl, d', by rw [backE_out hi]; exact e2⟩
theorem st_back {K : Kx} {F0 F H0 H : Hp} {σ : L2.St} {ρ0 ρ : Env} {vs : List Nat} (s0 : St K F0 H0 σ ρ0) (s : St K F H (wipe σ vs) ρ) (sf : Same F0 F) (hn : vs.all (notOwn ρ0) = true) : St K F H σ (backE ρ0 vs ρ) := by
  have hl : ρ.length = ρ0.length := by rw [s.len, wipe_length, s0.len]
  have own : ∀ (i : Nat) (f : Bool) (d : D), (backE ρ0 vs ρ)[i]? = some (some (.own f d)) → i ∉ vs ∧ ρ[i]? = some (some (.own f d)) := fun i f d e => by
    by_cases hi : i ∈ vs
    · rw [backE_in hl hi] at e
      exact absurd e (not_own hn hi)
    · rw [backE_out hi] at e
      exact ⟨hi, e⟩
  refine ⟨s.sub, by rw [backE_len, hl]; exact s0.len, fun i c e => ?_, fun i j f g d e a h1 h2 h3 h4 => ?_⟩
  · by_cases hi : i ∈ vs
    · rw [backE_in hl hi] at e
      cases c with
      | val d =>
        obtain ⟨v, e1, r⟩ := s0.cell i _ e
        exact ⟨v, e1, dp_mono sf _ _ r⟩
      | own f d => exact absurd e (not_own hn hi)
    · rw [backE_out hi] at e
      have q := s.cell i c e
      rw [wipe_out' hi] at q
      exact q
  · obtain ⟨n1, e1⟩ := own i f d h1
    obtain ⟨n2, e2⟩ := own j g e h2
    exact s.dist i j f g d e a e1 e2 (by rw [wipe_out' n1]; exact h3) (by rw [wipe_out' n2]; exact h4)
theorem wipe_in' {σ : L2.St} {i : Nat} (hi : i < σ.length) : ∀ {vs : List Nat}, i ∈ vs → (wipe σ vs)[i]? = some none
  | [], h => by simp at h
  | v :: vs, h => by
    unfold wipe
    by_cases z : v = i
    · subst z
      exact List.getElem?_set_self (by rw [wipe_length]; exact hi)
    · rw [List.getElem?_set_ne z]
      exact wipe_in' hi ((List.mem_cons.mp h).resolve_left fun y => z y.symm)
theorem wipe_eq {σ σ2 : L2.St} {vs is : List Nat} (hs : ∀ j, j ∉ is → σ2[j]? = (wipe σ vs)[j]?) (hv : ∀ j ∈ is, j ∈ vs) (hl : σ2.length = σ.length) : wipe σ2 vs = wipe σ vs := by
  refine List.ext_getElem? fun j => ?_
  by_cases hj : j ∈ vs
  · by_cases h : j < σ.length
    · rw [wipe_in' h hj, wipe_in' (by rw [hl]; exact h) hj]
    · rw [List.getElem?_eq_none (by rw [wipe_length, hl]; omega), List.getElem?_eq_none (by rw [wipe_length]; omega)]
  · rw [wipe_out' hj]
    exact hs j fun z => hj (hv j z)
theorem lc_q {vs is : List Nat} (hv : ∀ j ∈ is, j ∈ vs) {gi : Md (List D)} {gt : D → Env → Option Env} {gc : Md Bool} {ge : Md D} {σ : L2.St} {H : Hp} {Q : VK} (q : tF (cxK X) (gLc vs gi gt gc ge) σ H Q) : tLc (tDI (cxK X) gi) (tDG (cxK X) is gt) (tDT (cxK X) gc) (tD (cxK X) ge) vs σ H Q := by
    obtain ⟨F, ρ, d, ρ', s, eg, k⟩ := q
    obtain ⟨⟨ds, ρ1⟩, e1, eg1⟩ := bind_some eg
    simp only at eg1
    split at eg1
    · rename_i hl
      obtain ⟨⟨rs, ρe⟩, e2, eg2⟩ := bind_some eg1
      cases eg2
      refine ⟨F, ρ, ds, ρ1, s, e1, fun J F1 H1 p1 s1 ok D hD => ?_⟩
      have hw := st_wipe s1 vs
      have hnv : ∀ i dd, ρ1[i]? = some (some (.own true dd)) → i ∉ vs := fun i dd e hi => not_own hl.2 hi e
      have p1w : Stp F1 σ ρ1 H1 F1 (wipe σ vs) (wipeE ρ1 vs) H1 := stp_wipe Stp.refl hnv
      have nD0 : ¬ Owns (wipe σ vs) (wipeE ρ1 vs) D := not_owns hw hD
      refine ⟨fun i m Hi => ∃ Fi ρi acc as rr, m = ds.length - i ∧ i ≤ ds.length ∧ Stp F1 σ ρ1 H1 Fi (wipe σ vs) ρi Hi ∧ St (cxK X) Fi Hi (wipe σ vs) ρi ∧ lcD vs gt gc ge (ds.drop i) ρi = some (rr, ρe) ∧ as ++ rr = rs ∧ (Fi D = none ∧ ¬ Owns (wipe σ vs) ρi D) ∧ Hi D = some (.lst acc) ∧ RpAll (cxK X) Fi acc as ∧ as.length ≤ i,
        ⟨ds.length, F1, wipeE ρ1 vs, [], [], rs, by simp, Nat.zero_le _, p1w.trans ((Grow.own s1.sub hD).stp _ _), hw.grow (Grow.own s1.sub hD), by simpa using e2, by simp, ⟨none_sub s1.sub hD, nD0⟩, upd_same, .nil, by simp⟩, ?_⟩
      rintro i m Hi ⟨Fi, ρi, acc, as, rr, rfl, hi, pi, si, ei, er, ⟨fD, nD⟩, hDi, ra, la⟩
      have sff : Same F1 Fi := pi.ff
      by_cases hlt : i < ds.length
      · have hd : ds[i]? = some ds[i] := List.getElem?_eq_getElem hlt
        obtain ⟨ok1, _⟩ := ok Fi Hi sff si.sub i
        obtain ⟨go, yl⟩ := ok1 _ hd
        rw [drop_cons hd] at ei
        obtain ⟨ρ2, e3, ei1⟩ := bind_some ei
        obtain ⟨⟨b, ρ3⟩, e4, ei2⟩ := bind_some ei1
        refine .inr ⟨go, fun H' => ∃ F' ρ'' acc' as' rr', Stp F1 σ ρ1 H1 F' (wipe σ vs) ρ'' H' ∧ St (cxK X) F' H' (wipe σ vs) ρ'' ∧ lcD vs gt gc ge (ds.drop (i + 1)) ρ'' = some (rr', ρe) ∧ as' ++ rr' = rs ∧ (F' D = none ∧ ¬ Owns (wipe σ vs) ρ'' D) ∧ H' D = some (.lst acc') ∧ RpAll (cxK X) F' acc' as' ∧ as'.length ≤ i + 1,
          fun H' ⟨F', ρ'', acc', as', rr', z1, z2, z3, z4, z5, z6, z7, z8⟩ => ⟨ds.length - (i + 1), by omega, F', ρ'', acc', as', rr', rfl, hlt, z1, z2, z3, z4, z5, z6, z7, z8⟩, fun v H' hy => ?_⟩
        obtain ⟨F', gr, rv⟩ := yl v H' hy
        have q0 := gr.stp (wipe σ vs) ρi
        refine ⟨F', ρi, _, ρ2, si.grow gr, rv, e3, fun σ2 F2 H2 p2 s2 w2 => ?_⟩
        have ew : wipe σ2 vs = wipe σ vs := wipe_eq w2.2 hv (w2.1.trans (wipe_length σ vs))
        refine ⟨ew, F2, ρ2, b, ρ3, s2, e4, fun F3 H3 p3 s3 => ?_⟩
        have q3 := q0.trans (p2.trans p3)
        have fin : ∀ (F4 : Hp) (ρ4 : Env) (H4 : Hp), Stp Fi (wipe σ vs) ρi Hi F4 σ2 ρ4 H4 → St (cxK X) F4 H4 σ2 ρ4 → H4 D = some (.lst acc) ∧ F4 D = none ∧ ¬ Owns (wipe σ vs) (wipeE ρ4 vs) D ∧ Stp F1 σ ρ1 H1 F4 (wipe σ vs) (wipeE ρ4 vs) H4 ∧ St (cxK X) F4 H4 (wipe σ vs) (wipeE ρ4 vs) := fun F4 ρ4 H4 q s4 => by
          obtain ⟨h1, h2⟩ := q.keep D _ hDi nD
          have h3 := stp_wipe (pi.trans q) hnv
          have h4 := st_wipe s4 vs
          rw [ew] at h3 h4
          refine ⟨h1, h2.trans fD, fun z => ?_, h3, h4⟩
          obtain ⟨j, f, dd, z1, z2⟩ := z
          obtain ⟨z3, z4⟩ := wipeE_cell z1
          rw [← ew, wipe_out' z4] at z2
          rcases q.fresh D ⟨j, f, dd, z3, z2⟩ with y | y
          · exact nD y
          · rw [hDi] at y
            cases y
        cases b with
        | true =>
          rw [if_pos rfl] at ei2
          obtain ⟨⟨y, ρ4⟩, e5, ei3⟩ := bind_some ei2
          obtain ⟨⟨r, ρ5⟩, e6, ei4⟩ := bind_some ei3
          cases ei4
          refine ⟨F3, ρ3, y, ρ4, s3, e5, fun u F4 H4 p4 s4 r4 => ?_⟩
          have q4 := q3.trans p4
          obtain ⟨h1, h2, h3, h4, h5⟩ := fin F4 ρ4 H4 q4 s4
          refine ⟨acc, h1, by rw [line_eq, da_len ra]; omega, F4, wipeE ρ4 vs, acc ++ [u], as ++ [y], r, stp_side h4 hD, st_side h5 h2 h3, e6, by rw [List.append_assoc]; exact er, ⟨h2, h3⟩, upd_same, da_app (dpAll_mono q4.ff _ _ ra) (.cons r4 .nil), by rw [List.length_append]; simpa using la⟩
        | false =>
          rw [if_neg Bool.false_ne_true] at ei2
          obtain ⟨h1, h2, h3, h4, h5⟩ := fin F3 ρ3 H3 q3 s3
          exact ⟨F3, wipeE ρ3 vs, acc, as, rr, h4, h5, ei2, er, ⟨h2, h3⟩, h1, dpAll_mono q3.ff _ _ ra, by omega⟩
      · rw [List.drop_of_length_le (by omega)] at ei
        cases ei
        obtain ⟨_, st⟩ := ok Fi Hi sff si.sub i
        refine .inl ⟨st (by omega), ?_⟩
        rw [List.append_nil] at er
        subst er
        obtain ⟨pb, sb⟩ := stp_back pi (by rw [si.len, wipe_length, s1.len]) hl.2
        exact k D Fi Hi (p1.trans pb) (st_back s1 si sff hl.2) ⟨fD, .inl ⟨acc, as, rfl, hDi, ra⟩⟩ (fun z => nD (sb D z)) (p1.none hD)
    · cases eg1
end
end Dn
set_option maxHeartbeats 2000000
/-! defs as functions on data; names that are looked at -/
namespace Dn
open PySem PySem.Spec PyProof.Rows L2

/-! ### defs -/
def vals (ds : List D) : Env := ds.map fun d => some (.val d)
def envV (N : Nat) (ds : List D) : Env := vals ds ++ List.replicate (N - ds.length) none
def endV : Fl × Env → Option D
  | (.ret d, _) => some d
  | (.nx, _) => some .none
  | _ => none
def runV (N : Nat) (g : Sd) (ds : List D) : Option D := (g (envV N ds)).bind endV
def envIO (N : Nat) (d : D) (ds : List D) : Env := some (.own true d) :: (vals ds ++ List.replicate (N - (ds.length + 1)) none)
def ownOf : Option (Option Cell) → Option D
  | some (some (.own true d)) => some d
  | _ => none
def endIO (p : Fl × Env) : Option (D × D) := (ownOf p.2[0]?).bind fun d => (endV p).bind fun r => some (r, d)
def runIO (N : Nat) (g : Sd) (d : D) (ds : List D) : Option (D × D) := (g (envIO N d ds)).bind endIO

theorem vals_get {ds : List D} {n i : Nat} {c : Cell} (h : (vals ds ++ List.replicate n none)[i]? = some (some c)) : ∃ d, ds[i]? = some d ∧ c = .val d := by
  by_cases hi : i < ds.length
  · rw [List.getElem?_append_left (by simpa [vals] using hi)] at h
    unfold vals at h
    rw [List.getElem?_map] at h
    cases q : ds[i]? with
    | none => rw [q] at h; cases h
    | some d =>
      rw [q] at h
      cases h
      exact ⟨d, rfl, rfl⟩
  · rw [List.getElem?_append_right (by simpa [vals] using Nat.le_of_not_lt hi)] at h
    have h2 := List.mem_of_getElem? h
    have := List.eq_of_mem_replicate h2
    cases this
theorem start_get {vs : List V} {n i : Nat} {v : V} (h : vs[i]? = some v) : (vs.map some ++ List.replicate n none)[i]? = some (some v) := by
  have hi := (List.getElem?_eq_some_iff.mp h).1
  rw [List.getElem?_append_left (by simpa using hi), List.getElem?_map, h]
  rfl
theorem st_vals {K : Kx} {F H : Hp} {N : List Str} {vs : List V} {ds : List D} (s : Same F H) (hd : RpAll K F vs ds) : St K F H (L2.start N vs) (envV N.length ds) where
  sub := s
  len := by simp [envV, L2.start, vals, da_len hd]
  cell := fun i c h => by
    obtain ⟨d, e, rfl⟩ := vals_get h
    obtain ⟨v, e1, r⟩ := da_at hd e
    exact ⟨v, start_get e1, r⟩
  dist := fun i j f g d e a h1 _ _ _ => by
    obtain ⟨d', _, z⟩ := vals_get h1
    cases z
theorem no_owns {σ : L2.St} {N : Nat} {ds : List D} {b : Addr} : ¬ Owns σ (envV N ds) b := fun z => by
  obtain ⟨i, f, d, h, _⟩ := z
  obtain ⟨d', _, z⟩ := vals_get h
  cases z
theorem stp_grow {K : Kx} {F F' H H' : Hp} {σ σ' : L2.St} {N : Nat} {ds : List D} {ρ' : Env} (p : Stp F σ (envV N ds) H F' σ' ρ' H') (s : St K F' H' σ' ρ') : Grow F H F' H' :=
  ⟨p.ff, fun b o h => (p.keep b o h no_owns).1, s.sub, fun b o h => (p.keep b o h no_owns).2⟩
section
variable {P : Program} {w : World} {K : PySem.W.Frag} {mg : Str → Option Value} {base : Heap}
theorem fn_V {x qual : Str} {st : Stmt} {f : Addr} {fd : FuncData} {N ps : List Str} {k : Nat} {g : Sd} (Fn : Fun K x qual st f fd) (S : FnScope N ps (defScope st))
    (hbody : ∀ (cdv : Value) (A : Around) (outer : List PySem.Env) (s : Shared) (H : Hp) (E : XK), Room k (A.deeper (envOfC qual (defScope st) s.heap.objs.size f cdv)) → DSs (cxOf CX0 P w K mg base N qual (defScope st) f cdv A outer s H E).nox (defBody st) g) :
    FnOk P w K mg base CX0 (k + 1) f fd ps (spV ⟨K, P, w⟩ ps.length (runV N.length g)) := by
  refine Fn.ok S (fun vs H Q E h => h.1) fun cdv A outer s H vs Q E hr h => ⟨_, hbody cdv A outer s H E hr, ?_⟩
  obtain ⟨_, F, ds, r, sf, hd, ef, k⟩ := h
  obtain ⟨⟨fl, ρ'⟩, e1, e2⟩ := bind_some ef
  refine ⟨F, envV N.length ds, fl, ρ', st_vals sf hd, e1, fun σ' F' H' p s' => ?_⟩
  have gr := stp_grow p s'
  cases fl with
  | nx =>
    cases e2
    exact k .non F' H' gr .non
  | ret d =>
    cases e2
    exact fun v rv => k v F' H' gr rv
  | rof d => cases e2
  | brk => cases e2
  | cnt => cases e2
def endF : Fl × Env → Option D
  | (.rof d, _) => some d
  | _ => none
def runF (N : Nat) (g : Sd) (ds : List D) : Option D := (g (envV N ds)).bind endF
theorem fn_F {x qual : Str} {st : Stmt} {f : Addr} {fd : FuncData} {N ps : List Str} {k : Nat} {g : Sd} (Fn : Fun K x qual st f fd) (S : FnScope N ps (defScope st))
    (hbody : ∀ (cdv : Value) (A : Around) (outer : List PySem.Env) (s : Shared) (H : Hp) (E : XK), Room k (A.deeper (envOfC qual (defScope st) s.heap.objs.size f cdv)) → DSs (cxOf CX0 P w K mg base N qual (defScope st) f cdv A outer s H E).nox (defBody st) g) :
    FnOk P w K mg base CX0 (k + 1) f fd ps (spF ⟨K, P, w⟩ ps.length (runF N.length g)) := by
  refine Fn.ok S (fun vs H Q E h => h.1) fun cdv A outer s H vs Q E hr h => ⟨_, hbody cdv A outer s H E hr, ?_⟩
  obtain ⟨_, F, ds, r, sf, hd, ef, k⟩ := h
  obtain ⟨⟨fl, ρ'⟩, e1, e2⟩ := bind_some ef
  refine ⟨F, envV N.length ds, fl, ρ', st_vals sf hd, e1, fun σ' F' H' p s' => ?_⟩
  have gr := stp_grow p s'
  cases fl with
  | rof d =>
    cases e2
    exact fun a o n => k a F' H' gr o n
  | nx => cases e2
  | ret d => cases e2
  | brk => cases e2
  | cnt => cases e2
theorem io_get {d : D} {ds : List D} {n i : Nat} {c : Cell} (h : ((some (Cell.own true d) :: (vals ds ++ List.replicate n none)) : Env)[i]? = some (some c)) : (i = 0 ∧ c = .own true d) ∨ ∃ j e, i = j + 1 ∧ ds[j]? = some e ∧ c = .val e := by
  cases i with
  | zero =>
    cases h
    exact .inl ⟨rfl, rfl⟩
  | succ j =>
    rw [List.getElem?_cons_succ] at h
    obtain ⟨e, h1, h2⟩ := vals_get h
    exact .inr ⟨j, e, rfl, h1, h2⟩
theorem fn_IO {x qual : Str} {st : Stmt} {f : Addr} {fd : FuncData} {N ps : List Str} {k : Nat} {g : Sd} (Fn : Fun K x qual st f fd) (S : FnScope N ps (defScope st)) (hN : 0 < N.length)
    (hbody : ∀ (cdv : Value) (A : Around) (outer : List PySem.Env) (s : Shared) (H : Hp) (E : XK), Room k (A.deeper (envOfC qual (defScope st) s.heap.objs.size f cdv)) → DSs (cxOf CX0 P w K mg base N qual (defScope st) f cdv A outer s H E).nox (defBody st) g) :
    FnOk P w K mg base CX0 (k + 1) f fd ps (spIO ⟨K, P, w⟩ ps.length (runIO N.length g)) := by
  refine Fn.ok S (fun vs H Q E h => h.1) fun cdv A outer s H vs Q E hr h => ⟨_, hbody cdv A outer s H E hr, ?_⟩
  obtain ⟨_, F, a, ws, d, ds, r, d', rfl, sf, o, hd, ef, k⟩ := h
  obtain ⟨⟨fl, ρ'⟩, e1, e2⟩ := bind_some ef
  have hs0 : (L2.start N (.ref a :: ws))[0]? = some (some (.ref a)) := rfl
  have hst : St (Kx.mk K P w) F H (L2.start N (.ref a :: ws)) (envIO N.length d ds) := by
    refine ⟨sf, by simp [envIO, L2.start, vals, da_len hd], fun i c h => ?_, fun i j f g d e b h1 h2 _ _ => ?_⟩
    · rcases io_get h with ⟨rfl, rfl⟩ | ⟨j, e, rfl, h1, rfl⟩
      · exact ⟨a, hs0, o⟩
      · obtain ⟨v, e3, rv⟩ := da_at hd h1
        exact ⟨v, start_get (vs := .ref a :: ws) (i := j + 1) e3, rv⟩
    · rcases io_get h1 with ⟨rfl, _⟩ | ⟨_, _, _, _, z⟩
      · rcases io_get h2 with ⟨rfl, _⟩ | ⟨_, _, _, _, z⟩
        · rfl
        · cases z
      · cases z
  refine ⟨F, envIO N.length d ds, fl, ρ', hst, e1, fun σ' F' H' p s' => ?_⟩
  have own1 : ∀ b, Owns (L2.start N (.ref a :: ws)) (envIO N.length d ds) b → b = a := fun b z => by
    obtain ⟨i, f, e, h1, h2⟩ := z
    rcases io_get h1 with ⟨rfl, _⟩ | ⟨_, _, _, _, z⟩
    · rw [hs0] at h2
      cases h2
      rfl
    · cases z
  obtain ⟨f1, d1, f2⟩ := p.fix 0 d rfl
  have f3 : ρ'[0]? = some (some (.own true d1)) := f2
  have o' : OwnAt (Kx.mk K P w) F' H' a d1 := by
    obtain ⟨b, z1, z2⟩ := s'.cell 0 _ f3
    rw [f1, hs0] at z1
    cases z1
    exact z2
  have kp : ∀ b u, H b = some u → b ≠ a → H' b = some u ∧ F' b = F b := fun b u h n => p.keep b u h fun z => n (own1 b z)
  have e3 : (endV (fl, ρ')).bind (fun r => some (r, d1)) = some (r, d') := by
    have e4 : endIO (fl, ρ') = some (r, d') := e2
    unfold endIO at e4
    rw [show (fl, ρ').2[0]? = some (some (.own true d1)) from f3] at e4
    exact e4
  cases fl with
  | nx =>
    cases e3
    exact k .non F' H' p.ff s'.sub kp o' .non
  | ret d =>
    cases e3
    exact fun v rv => k v F' H' p.ff s'.sub kp o' rv
  | rof d => cases e3
  | brk => cases e3
  | cnt => cases e3
/-- the law -/
def spLaw (K : PySem.W.Frag) : Sp := fun vs H Q _ => ∃ (a : Addr) (ns : List Int), vs = [.ref a] ∧ SqL K H a (ns.map V.int) ∧ ns.length ≤ 63 ∧ ∀ H', Q (.bl true) H'
theorem fn_law {k : Nat} {f : Addr} {fd : FuncData} {ps : List Str} {g : List D → Option D} (G : FnOk P w K mg base CX0 k f fd ps (spV ⟨K, P, w⟩ 1 g)) (hg : ∀ ns : List Int, ns.length ≤ 63 → g [.list (ns.map PyData.int)] = some (.bool true)) : FnOk P w K mg base CX0 k f fd ps (spLaw K) :=
  G.imp fun vs H Q E h => by
    obtain ⟨a, ns, rfl, hs, hl, q⟩ := h
    exact ⟨rfl, H, _, _, Same.refl H, .cons (.lst hs (da_ints ns)) .nil, hg ns hl, fun v F' H' _ rv => by
      cases rv
      exact q H'⟩
end

/-! ### names that are looked at: a list of one's own stays one's own -/
def peek (ρ : Env) (i : Nat) : Option D := match ρ[i]? with
  | some (some (.val d)) => some d
  | some (some (.own _ d)) => some d
  | _ => none
def flatD : D → Bool
  | .none => true
  | .bool _ => true
  | .int _ => true
  | .str _ => true
  | _ => false
def gPk (i : Nat) (f : List D → Option D) : Md D := fun ρ => (peek ρ i).bind fun d => (f [d]).bind fun r => if flatD r = true then some (r, ρ) else none
theorem flat_dp {K : Kx} {F F' : Hp} {v : V} {d : D} (h : Rp K F v d) (fl : flatD d = true) : Rp K F' v d := by
  cases h with
  | dic _ _ => cases fl
  | dicN _ _ => cases fl
  | non => exact .non
  | bl b => exact .bl b
  | int i => exact .int i
  | str x => exact .str x
  | lst _ _ => cases fl
  | tup _ _ => cases fl
theorem peek_dp {K : Kx} {F H : Hp} {σ : L2.St} {ρ : Env} {i : Nat} {d : D} (s : St K F H σ ρ) (h : peek ρ i = some d) : ∃ v, σ[i]? = some (some v) ∧ Rp K H v d := by
  unfold peek at h
  split at h
  · rename_i d' e
    cases h
    obtain ⟨v, e1, r⟩ := st_val s e
    exact ⟨v, e1, dp_mono s.sub _ _ r⟩
  · rename_i f d' e
    cases h
    obtain ⟨a, e1, o, _⟩ := st_owned s e
    obtain ⟨f0, o⟩ := o
    rcases o with ⟨xs, ds, rfl, hx, r⟩ | ⟨xs, es, rfl, hx, r⟩
    · exact ⟨.ref a, e1, .lst (SqL.of hx) (dpAll_mono s.sub _ _ r)⟩
    · exact ⟨.ref a, e1, .dicN hx (dpN_mono s.sub _ _ r)⟩
  · cases h
section
variable {X : Cx} {e a : Expr} {pos p py : Pos} {x y : Str}
theorem de_pkB (i : Nat) {id : String} {f : List D → Option D} (hc : CallR X (.builtin id) (rPn (cxK X) f)) (hg : Gl X x) (hm : X.mg x = none) (hv : bootBuiltins x = some (.builtin id)) (hN : X.N[i]? = some y) (hy : Vis X.env.scope y) (hn : x ≠ "__name__" := by decide) (hdb : (x == ("__debug__" : Str)) = false := by decide)
    (hdy : (y == ("__debug__" : Str)) = false := by decide) (hcd : (y == ("__classdict__" : Str)) = false := by decide) (he : starEach [.Name y py] X.env = (false, eval (.Name y py) X.env) :: starEach [] X.env := by rfl) (hpl : (backTo pos (starEach [] X.env)).any (·.1) = false := by rfl) : DE X (.Call (.Name x p) [.Name y py] [] pos) (gPk i f) :=
  pe_imp (pe_callB hc hg hm hv (pa_cons (pe_var hN hy hdy hcd) pa_nil he) hn hdb he hpl) fun σ H Q q => by
    obtain ⟨F, ρ, d, ρ', s, eg, k⟩ := q
    obtain ⟨d1, e1, eg1⟩ := bind_some eg
    obtain ⟨r, e2, eg2⟩ := bind_some eg1
    split at eg2
    · rename_i fl
      cases eg2
      obtain ⟨v, ev, rv⟩ := peek_dp s e1
      refine ⟨v, ev, H, [d1], _, Same.refl H, .cons rv .nil, e2, fun u F' H' gr ru => ?_⟩
      have gr2 : Grow F H F H' := ⟨Same.refl F, gr.hh, s.sub.trans gr.hh, fun _ _ _ => rfl⟩
      exact k u F H' (gr2.stp σ ρ) (s.grow gr2) (flat_dp ru fl)
    · cases eg2
def gIxB (i : Nat) (gi : Md D) : Md D := fun ρ => match ρ[i]? with
  | some (some (.val d)) => (gi ρ).bind fun p => (ixD d p.1).bind fun r => some (r, p.2)
  | some (some (.own _ _)) => (gi ρ).bind fun p => match p.2[i]? with
    | some (some (.own _ d)) => (ixD d p.1).bind fun r => some (r, p.2)
    | _ => none
  | _ => none
theorem de_ixB (i : Nat) {gi : Md D} (hN : X.N[i]? = some y) (hy : Vis X.env.scope y) (hi : DE X a gi) (hs : PlainIx a) (hdy : (y == ("__debug__" : Str)) = false := by decide) (hcd : (y == ("__classdict__" : Str)) = false := by decide) : DE X (.Subscript (.Name y py) a pos) (gIxB i gi) :=
  pe_imp (pe_ix (ix_list.or ix_D) (pe_var hN hy hdy hcd) hi hs) fun σ H Q q => by
    obtain ⟨F, ρ, d, ρ', s, eg, k⟩ := q
    unfold gIxB at eg
    split at eg
    · rename_i d0 h0
      obtain ⟨⟨di, ρ1⟩, e1, eg1⟩ := bind_some eg
      obtain ⟨r, e2, eg2⟩ := bind_some eg1
      cases eg2
      obtain ⟨v, ev, rv⟩ := st_val s h0
      exact ⟨v, ev, F, ρ, di, _, s, e1, fun u F1 H1 p1 s1 r1 => .inr ⟨F1, d0, di, _, s1.sub, dp_mono p1.ff _ _ rv, r1, e2, fun z F2 H2 gr rz => k z F2 H2 (p1.trans (gr.stp σ _)) (s1.grow gr) rz⟩⟩
    · rename_i b0 d0 h0
      obtain ⟨a0, ea, o0, _⟩ := st_owned s h0
      obtain ⟨⟨di, ρ1⟩, e1, eg1⟩ := bind_some eg
      simp only at eg1
      split at eg1
      · rename_i b1 d1 h1
        obtain ⟨r, e2, eg2⟩ := bind_some eg1
        cases eg2
        refine ⟨.ref a0, ea, F, ρ, di, _, s, e1, fun u F1 H1 p1 s1 r1 => .inl ?_⟩
        obtain ⟨a1, ea1, o1, _⟩ := st_owned s1 h1
        rw [ea] at ea1
        cases ea1
        obtain ⟨f1, o1⟩ := o1
        rcases o1 with ⟨xs, ds, rfl, hx, rx⟩ | ⟨xs, es, rfl, _⟩
        case inr => cases di <;> cases e2
        cases di with
        | int z =>
          obtain ⟨w, ew, rw'⟩ := da_ix rx e2
          cases r1
          exact ⟨a0, xs, z, w, rfl, rfl, SqL.of hx, ixA_at ew, k w F1 H1 p1 s1 rw'⟩
        | none => cases e2
        | bool _ => cases e2
        | str _ => cases e2
        | list _ => cases e2
        | tuple _ => cases e2
        | dict _ => cases e2
      · cases eg1
    · cases eg
/-! in, not in -/
def inT (d : D) : D → Option Bool
  | .list ds => if SeqAt.shaped d = true ∧ SeqAt.shaped (.list ds) = true then some (ds.any fun z => PyData.eqv z d) else none
  | .tuple ds => if flatD d = true ∧ ds.all flatD = true then some (ds.any fun z => PyData.eqv z d) else none
  | _ => none
def inD (d e : D) : Option D := (inT d e).bind fun b => some (.bool b)
def ninD (d e : D) : Option D := (inT d e).bind fun b => some (.bool !b)
theorem flat_V {K : Kx} {H : Hp} {v : V} {d : D} (h : Rp K H v d) (fl : flatD d = true) : flatV v = true := by
  cases h with
  | non => rfl
  | bl b => rfl
  | int i => rfl
  | str x => rfl
  | lst _ _ => cases fl
  | tup _ _ => cases fl
  | dic _ _ => cases fl
  | dicN _ _ => cases fl
theorem eq_V {K : Kx} {H : Hp} {v w : V} {d e : D} (h : Rp K H v d) (h2 : Rp K H w e) (f1 : flatD d = true) (f2 : flatD e = true) : eqV v w = PyData.eqv d e := by
  cases h <;> (try cases f1) <;> cases h2 <;> (try cases f2) <;> simp [eqV, PyData.eqv]
theorem in_V {K : Kx} {H : Hp} {v : V} {d : D} (h : Rp K H v d) (f1 : flatD d = true) : ∀ {ds : List D} {vs : List V}, RpAll K H vs ds → ds.all flatD = true → vs.all flatV = true ∧ inV v vs = ds.any fun z => PyData.eqv z d
  | _, _, .nil, _ => ⟨rfl, rfl⟩
  | _, _, .cons r rs, f2 => by
    rw [List.all_cons, Bool.and_eq_true] at f2
    obtain ⟨h1, h2⟩ := in_V h f1 rs f2.2
    refine ⟨by rw [List.all_cons, flat_V r f2.1, h1]; rfl, ?_⟩
    unfold inV at h2 ⊢
    rw [List.any_cons, List.any_cons, h2, eq_V r h f2.1 f1]
theorem in_any (hu : X.A.units + 65 < cLine) {v w : V} {H : Hp} {Q : VK} {d e : D} {b : Bool} (hd : Rp (cxK X) H v d) (he : Rp (cxK X) H w e) (h : inT d e = some b) (q : Q (.bl b) H) : rInD (cxK X) v w H Q ∨ rIn (cxK X) false v w H Q := by
  unfold inT at h
  split at h
  · split at h
    · rename_i hs
      cases h
      exact .inl ⟨d, _, rp_dp hd (SeqAt.canLay_of_shaped hs.1), rp_dp he (SeqAt.canLay_of_shaped hs.2), hs.1, hs.2, q⟩
    · cases h
  · split at h
    · rename_i hs
      cases h
      cases he with
      | @tup a vs _ h1 d1 =>
        obtain ⟨z1, z2⟩ := in_V hd hs.1 d1 hs.2
        exact .inr ⟨a, vs, rfl, .inr h1, flat_V hd hs.1, z1, by rw [z2]; exact q⟩
    · cases h
  · cases h
theorem nin_any (hu : X.A.units + 65 < cLine) {v w : V} {H : Hp} {Q : VK} {d e : D} {b : Bool} (hd : Rp (cxK X) H v d) (he : Rp (cxK X) H w e) (h : inT d e = some b) (q : Q (.bl !b) H) : rNotInD (cxK X) v w H Q ∨ rIn (cxK X) true v w H Q := by
  unfold inT at h
  split at h
  · split at h
    · rename_i hs
      cases h
      exact .inl ⟨d, _, rp_dp hd (SeqAt.canLay_of_shaped hs.1), rp_dp he (SeqAt.canLay_of_shaped hs.2), hs.1, hs.2, q⟩
    · cases h
  · split at h
    · rename_i hs
      cases h
      cases he with
      | @tup a vs _ h1 d1 =>
        obtain ⟨z1, z2⟩ := in_V hd hs.1 d1 hs.2
        exact .inr ⟨a, vs, rfl, .inr h1, flat_V hd hs.1, z1, by rw [z2]; exact q⟩
    · cases h
  · cases h
theorem op_inD' (hu : X.A.units + 65 < cLine) : OpR X (compareOp .In) (rP2 (cxK X) inD) := by
  intro pins s σ H v w t u Q I rx ry h
  obtain ⟨F, d, e, r, sf, hd, he, ef, k⟩ := h
  obtain ⟨b, e1, e2⟩ := bind_some ef
  cases e2
  exact ((op_inD hu).or op_in_seq) pins s σ H v w t u Q I rx ry (in_any hu (dp_mono sf _ _ hd) (dp_mono sf _ _ he) e1 (k _ F H (Grow.refl sf) (.bl _)))
theorem op_ninD' (hu : X.A.units + 65 < cLine) : OpR X (compareOp .NotIn) (rP2 (cxK X) ninD) := by
  intro pins s σ H v w t u Q I rx ry h
  obtain ⟨F, d, e, r, sf, hd, he, ef, k⟩ := h
  obtain ⟨b, e1, e2⟩ := bind_some ef
  cases e2
  exact ((op_notInD hu).or op_notIn_seq) pins s σ H v w t u Q I rx ry (nin_any hu (dp_mono sf _ _ hd) (dp_mono sf _ _ he) e1 (k _ F H (Grow.refl sf) (.bl _)))
def gInB (neg : Bool) (i : Nat) (g : Md D) : Md D := fun ρ => (g ρ).bind fun p => (peek p.2 i).bind fun e => (inT p.1 e).bind fun b => some (.bool (if neg = true then !b else b), p.2)
theorem de_inB (i : Nat) {g : Md D} (hu : X.A.units + 65 < cLine) (hN : X.N[i]? = some y) (hy : Vis X.env.scope y) (ha : DE X a g) (hdy : (y == ("__debug__" : Str)) = false := by decide) (hcd : (y == ("__classdict__" : Str)) = false := by decide) (hm : behindInMarks .In (.Name y py) = false := by rfl) : DE X (.Compare a [.In] [.Name y py] pos) (gInB false i g) :=
  pe_imp (pe_cmpR ((op_inD hu).or op_in_seq) ha (pe_var hN hy hdy hcd) hm) fun σ H Q q => by
    obtain ⟨F, ρ, d, ρ', s, eg, k⟩ := q
    obtain ⟨⟨d1, ρ1⟩, e1, eg1⟩ := bind_some eg
    obtain ⟨e, e2, eg2⟩ := bind_some eg1
    obtain ⟨b, e3, eg3⟩ := bind_some eg2
    cases eg3
    refine ⟨F, ρ, d1, _, s, e1, fun v F1 H1 p1 s1 r1 => ?_⟩
    obtain ⟨w, ew, rw'⟩ := peek_dp s1 e2
    exact ⟨w, ew, in_any hu (dp_mono s1.sub _ _ r1) rw' e3 (k _ F1 H1 p1 s1 (.bl _))⟩
theorem de_ninB (i : Nat) {g : Md D} (hu : X.A.units + 65 < cLine) (hN : X.N[i]? = some y) (hy : Vis X.env.scope y) (ha : DE X a g) (hdy : (y == ("__debug__" : Str)) = false := by decide) (hcd : (y == ("__classdict__" : Str)) = false := by decide) (hm : behindInMarks .NotIn (.Name y py) = false := by rfl) : DE X (.Compare a [.NotIn] [.Name y py] pos) (gInB true i g) :=
  pe_imp (pe_cmpR ((op_notInD hu).or op_notIn_seq) ha (pe_var hN hy hdy hcd) hm) fun σ H Q q => by
    obtain ⟨F, ρ, d, ρ', s, eg, k⟩ := q
    obtain ⟨⟨d1, ρ1⟩, e1, eg1⟩ := bind_some eg
    obtain ⟨e, e2, eg2⟩ := bind_some eg1
    obtain ⟨b, e3, eg3⟩ := bind_some eg2
    cases eg3
    refine ⟨F, ρ, d1, _, s, e1, fun v F1 H1 p1 s1 r1 => ?_⟩
    obtain ⟨w, ew, rw'⟩ := peek_dp s1 e2
    exact ⟨w, ew, nin_any hu (dp_mono s1.sub _ _ r1) rw' e3 (k _ F1 H1 p1 s1 (.bl _))⟩
/-! truth -/
def truT : D → Option Bool
  | .none => some false
  | .bool b => some b
  | .int i => some (i != 0)
  | .str x => if x.length ≤ 16777216 then some ((x.length : Int) != 0) else none
  | .list ds => some (!ds.isEmpty)
  | .tuple ds => some (!ds.isEmpty)
  | _ => none
theorem da_emp {K : Kx} {H : Hp} {vs : List V} {ds : List D} (h : RpAll K H vs ds) : vs.isEmpty = ds.isEmpty := by
  cases h <;> rfl
theorem tru_dp {K : Kx} {H : Hp} {v : V} {d : D} {b : Bool} (h : Rp K H v d) (e : truT d = some b) : TruV K v H b := by
  cases h with
  | non =>
    cases e
    exact rfl
  | bl b =>
    cases e
    exact rfl
  | int i =>
    cases e
    exact rfl
  | str x =>
    have e1 : (if x.length ≤ 16777216 then some ((x.length : Int) != 0) else none) = some b := e
    by_cases hl : x.length ≤ 16777216
    · rw [if_pos hl] at e1
      cases e1
      exact ⟨by rw [line_eq]; exact hl, rfl⟩
    · rw [if_neg hl] at e1
      cases e1
  | lst h1 d1 =>
    cases e
    exact .inl ⟨_, h1, by rw [da_emp d1]⟩
  | tup h1 d1 =>
    cases e
    exact .inr (.inl ⟨_, h1, by rw [da_emp d1]⟩)
  | dic _ _ => cases e
  | dicN _ _ => cases e
def gTru (g : Md D) : Md Bool := fun ρ => (g ρ).bind fun p => (truT p.1).bind fun b => some (b, p.2)
def gTruB (i : Nat) : Md Bool := fun ρ => (peek ρ i).bind fun d => (truT d).bind fun b => some (b, ρ)
theorem dt_tru {g : Md D} (ha : DE X a g) (he : ∀ whole, isTrue a X.env whole = (do let v ← whole; standAt a.pos; holding [v] (truthy v)) := by intro _; rfl) : DT X a (gTru g) :=
  pt_imp (pt_truth ha he) fun σ H Q q => by
    obtain ⟨F, ρ, d, ρ', s, eg, k⟩ := q
    obtain ⟨⟨d1, ρ1⟩, e1, eg1⟩ := bind_some eg
    obtain ⟨b, e2, eg2⟩ := bind_some eg1
    cases eg2
    exact ⟨F, ρ, d1, _, s, e1, fun v F1 H1 p1 s1 r1 => ⟨_, tru_dp (dp_mono s1.sub _ _ r1) e2, k F1 H1 p1 s1⟩⟩
theorem dt_truB (i : Nat) (hN : X.N[i]? = some y) (hy : Vis X.env.scope y) (hdy : (y == ("__debug__" : Str)) = false := by decide) (hcd : (y == ("__classdict__" : Str)) = false := by decide) (he : ∀ whole, isTrue (.Name y py) X.env whole = (do let v ← whole; standAt (Expr.Name y py).pos; holding [v] (truthy v)) := by intro _; rfl) : DT X (.Name y py) (gTruB i) :=
  pt_imp (pt_truth (pe_var hN hy hdy hcd) he) fun σ H Q q => by
    obtain ⟨F, ρ, d, ρ', s, eg, k⟩ := q
    obtain ⟨d1, e1, eg1⟩ := bind_some eg
    obtain ⟨b, e2, eg2⟩ := bind_some eg1
    cases eg2
    obtain ⟨v, ev, rv⟩ := peek_dp s e1
    exact ⟨v, ev, _, tru_dp rv e2, k F H Stp.refl s⟩
/-! y = [..] where the comprehension runs in the frame -/
theorem dts_nil : PTs X [] (tDT (cxK X) gTrue) := ⟨fun pins s σ H Q I q => pts_nil.run pins s σ H Q I (by
  obtain ⟨F, ρ, d, ρ', st, eg, k⟩ := q
  cases eg
  exact k F H Stp.refl st)⟩
theorem dts_one {c : Expr} {g : Md Bool} (h : DT X c g) : PTs X [c] (tDT (cxK X) g) := pts_one h
theorem df_lc {e : Expr} {vs is : List Nat} {gi : Md (List D)} {gt : D → Env → Option Env} {gc : Md Bool} {ge : Md D} (h : PE X e (tLc (tDI (cxK X) gi) (tDG (cxK X) is gt) (tDT (cxK X) gc) (tD (cxK X) ge) vs)) (hv : ∀ j ∈ is, j ∈ vs := by decide) : DF X e (gLc vs gi gt gc ge) := pe_imp h fun _ _ _ q => lc_q hv q
theorem ds_lcO {st : Stmt} {i : Nat} {vs is : List Nat} {gi : Md (List D)} {gt : D → Env → Option Env} {gc : Md Bool} {ge : Md D} (h : PS X st (fun E σ H => tLc (tDI (cxK X) gi) (tDG (cxK X) is gt) (tDT (cxK X) gc) (tD (cxK X) ge) vs σ H fun v H1 => E.nx (σ.set i (some v)) H1)) (hv : ∀ j ∈ is, j ∈ vs := by decide) : DS X st (sOwn i (gLc vs gi gt gc ge)) :=
  ps_imp h fun E σ H q => by
    obtain ⟨F, ρ, f, ρ', s, eg, k⟩ := q
    obtain ⟨⟨d, ρ1⟩, e1, eg1⟩ := bind_some eg
    obtain ⟨r, e2, eg2⟩ := bind_some eg1
    cases eg2
    refine lc_q hv ⟨F, ρ, d, ρ1, s, e1, fun a F1 H1 p1 s1 o no hn => k _ F1 H1 (stp_set p1 e2 fun _ _ b _ z => ?_) (st_set s1 e2 ⟨a, rfl, o⟩ fun f _ b z1 z => ?_)⟩
    · cases z
      exact hn
    · cases z
      cases z1
      exact ⟨rfl, no⟩
end
end Dn
set_option maxHeartbeats 2000000
/-! short words for the printer -/
namespace Dn
open PySem PySem.Spec PyProof.Rows L2
section
variable {X : Cx} {e a : Expr} {pos p py : Pos} {x y : Str}
theorem dv (i : Nat) {x : Str} (hN : X.N[i]? = some x := by rfl) (hv : Vis X.env.scope x := by first | exact Or.inl rfl | exact Or.inr (Or.inl rfl) | exact Or.inr (Or.inr rfl)) (hd : (x == ("__debug__" : Str)) = false := by decide) (hcd : (x == ("__classdict__" : Str)) = false := by decide) : DE X (.Name x pos) (gVar i) := de_var i hN hv hd hcd
theorem dz (i : Nat) {x : Str} (hN : X.N[i]? = some x := by rfl) (hv : Vis X.env.scope x := by first | exact Or.inl rfl | exact Or.inr (Or.inl rfl) | exact Or.inr (Or.inr rfl)) (hd : (x == ("__debug__" : Str)) = false := by decide) (hcd : (x == ("__classdict__" : Str)) = false := by decide) : DE X (.Name x pos) (gFrz i) := de_frz i hN hv hd hcd
theorem in65 {k : Nat} {A : Around} (hr : Room k A) : A.units + 65 < cLine := by
  have := hr.un
  omega
theorem db_ix (i : Nat) {gi : Md D} (hi : DE X a gi) (hN : X.N[i]? = some y := by rfl) (hy : Vis X.env.scope y := by first | exact Or.inl rfl | exact Or.inr (Or.inl rfl) | exact Or.inr (Or.inr rfl)) (hs : PlainIx a := by intro _ _; rfl) (hdy : (y == ("__debug__" : Str)) = false := by decide) (hcd : (y == ("__classdict__" : Str)) = false := by decide) : DE X (.Subscript (.Name y py) a pos) (gIxB i gi) := de_ixB i hN hy hi hs hdy hcd
theorem db_tru (i : Nat) (hN : X.N[i]? = some y := by rfl) (hy : Vis X.env.scope y := by first | exact Or.inl rfl | exact Or.inr (Or.inl rfl) | exact Or.inr (Or.inr rfl)) (hdy : (y == ("__debug__" : Str)) = false := by decide) (hcd : (y == ("__classdict__" : Str)) = false := by decide) (he : ∀ whole, isTrue (.Name y py) X.env whole = (do let v ← whole; standAt (Expr.Name y py).pos; holding [v] (truthy v)) := by intro _; rfl) : DT X (.Name y py) (gTruB i) := dt_truB i hN hy hdy hcd he
theorem db_in (i : Nat) {g : Md D} (hu : X.A.units + 65 < cLine) (ha : DE X a g) (hN : X.N[i]? = some y := by rfl) (hy : Vis X.env.scope y := by first | exact Or.inl rfl | exact Or.inr (Or.inl rfl) | exact Or.inr (Or.inr rfl)) (hdy : (y == ("__debug__" : Str)) = false := by decide) (hcd : (y == ("__classdict__" : Str)) = false := by decide) (hm : behindInMarks .In (.Name y py) = false := by rfl) : DE X (.Compare a [.In] [.Name y py] pos) (gInB false i g) := de_inB i hu hN hy ha hdy hcd hm
theorem db_nin (i : Nat) {g : Md D} (hu : X.A.units + 65 < cLine) (ha : DE X a g) (hN : X.N[i]? = some y := by rfl) (hy : Vis X.env.scope y := by first | exact Or.inl rfl | exact Or.inr (Or.inl rfl) | exact Or.inr (Or.inr rfl)) (hdy : (y == ("__debug__" : Str)) = false := by decide) (hcd : (y == ("__classdict__" : Str)) = false := by decide) (hm : behindInMarks .NotIn (.Name y py) = false := by rfl) : DE X (.Compare a [.NotIn] [.Name y py] pos) (gInB true i g) := de_ninB i hu hN hy ha hdy hcd hm
theorem db_call (i : Nat) {id : String} {f : List D → Option D} (hc : CallR X (.builtin id) (rPn (cxK X) f)) (hg : Gl X x) (hm : X.mg x = none) (hv : bootBuiltins x = some (.builtin id)) (hN : X.N[i]? = some y := by rfl) (hy : Vis X.env.scope y := by first | exact Or.inl rfl | exact Or.inr (Or.inl rfl) | exact Or.inr (Or.inr rfl)) (hn : x ≠ "__name__" := by decide) (hdb : (x == ("__debug__" : Str)) = false := by decide)
    (hdy : (y == ("__debug__" : Str)) = false := by decide) (hcd : (y == ("__classdict__" : Str)) = false := by decide) (he : starEach [.Name y py] X.env = (false, eval (.Name y py) X.env) :: starEach [] X.env := by rfl) (hpl : (backTo pos (starEach [] X.env)).any (·.1) = false := by rfl) : DE X (.Call (.Name x p) [.Name y py] [] pos) (gPk i f) := de_pkB i hc hg hm hv hN hy hn hdb hdy hcd he hpl
theorem db_io (i : Nat) {k n : Nat} {f : Addr} {fd : FuncData} {ps : List Str} {es : List Expr} {g : D → List D → Option (D × D)} {gs : Md (List D)} (G : FnOk X.prog X.w (cxK X) X.mg X.base CX0 k f fd ps (spIO (cxK X) (n + 1) g)) (hr : Room k X.A) (hg : Gl X x) (hm : X.mg x = some (.ref f)) (hk : PySem.W.keepIn (cxK X) (.ref f) = true) (hb : Binds (cxK X) fd ps [])
    (ha : DA X es gs) (hlen : ∀ ρ ds ρ', gs ρ = some (ds, ρ') → ds.length = n) (hN : X.N[i]? = some y := by rfl) (hv : Vis X.env.scope y := by first | exact Or.inl rfl | exact Or.inr (Or.inl rfl) | exact Or.inr (Or.inr rfl))
    (hdb : (x == ("__debug__" : Str)) = false := by decide) (hdy : (y == ("__debug__" : Str)) = false := by decide) (hcd : (y == ("__classdict__" : Str)) = false := by decide) (he : starEach (.Name y py :: es) X.env = (false, eval (.Name y py) X.env) :: starEach es X.env := by rfl) (hpl : (backTo pos (starEach es X.env)).any (·.1) = false := by rfl) : DE X (.Call (.Name x p) (.Name y py :: es) [] pos) (gCallIO i g gs) := de_callIO i G hr hg hm hk hb hN hv ha hlen hdb hdy hcd he hpl
theorem db_setIx (i : Nat) {tpos : Pos} {gv gi : Md D} (he : DE X e gv) (hi : DE X a gi) (hN : X.N[i]? = some y := by rfl) (hv : Vis X.env.scope y := by first | exact Or.inl rfl | exact Or.inr (Or.inl rfl) | exact Or.inr (Or.inr rfl)) (hdy : (y == ("__debug__" : Str)) = false := by decide) (hcd : (y == ("__classdict__" : Str)) = false := by decide)
    (ha : ∀ v, assign (.Subscript (.Name y py) a tpos) X.env v = (do let ov ← holding [v] (eval (.Name y py) X.env); let iv ← holding [v, ov] (eval a X.env); standAt tpos; holding [v, ov, iv] (setItem ov iv v); release [v, ov, iv] []) := by intro _; rfl)
    (hs : swapsWithSole [.Subscript (.Name y py) a tpos] e pos.line X.env = pure false := by rfl) (hw : swappedStores [.Subscript (.Name y py) a tpos] e X.env = pure none := by rfl) : DS X (.Assign [.Subscript (.Name y py) a tpos] e pos) (sSetIx i gv gi) := ds_setIx i hN hv he hi hdy hcd ha hs hw
end
theorem bb_len : bootBuiltins "len" = some (.builtin "len") := by decide +kernel
theorem bb_abs : bootBuiltins "abs" = some (.builtin "abs") := by decide +kernel
theorem bb_max : bootBuiltins "max" = some (.builtin "max") := by decide +kernel
theorem bb_min : bootBuiltins "min" = some (.builtin "min") := by decide +kernel
theorem bb_ord : bootBuiltins "ord" = some (.builtin "ord") := by decide +kernel
theorem bt_int : bootBuiltins "int" = some (.type "int") := by decide +kernel
theorem bt_bool : bootBuiltins "bool" = some (.type "bool") := by decide +kernel
theorem bt_str : bootBuiltins "str" = some (.type "str") := by decide +kernel
theorem bt_list : bootBuiltins "list" = some (.type "list") := by decide +kernel
theorem bt_tuple : bootBuiltins "tuple" = some (.type "tuple") := by decide +kernel
end Dn
set_option maxHeartbeats 2000000
/-! names of the module, enumerate, texts multiplied, dicts shown -/
namespace Dn
open PySem PySem.Spec PyProof.Rows L2
section
variable {X : Cx} {tg e a b : Expr} {pos p py : Pos} {x y : Str}
theorem de_glob {n : Int} (hg : Gl X x) (h : ∃ t, X.mg x = some (.int n t)) (hd : (x == ("__debug__" : Str)) = false := by decide) : DE X (.Name x pos) (gC (.int n)) := by
  obtain ⟨t, ht⟩ := h
  exact de_const (t := tC .non) (v := .int n) (pe_glob hg ht ⟨t, rfl⟩ hd) fun _ => .int n

/-! ### a text so many times -/
def mulT : D → D → Option D
  | .str x, .int n => if 0 ≤ n ∧ n ≤ 1000 ∧ x.length ≤ 1000 then some (.str (Txt.mul x n)) else none
  | _, _ => none
theorem op_mulT : OpR X (binaryOp .Mult) (rP2 (cxK X) mulT) := by
  intro pins s σ H x y v u Q I rx ry h
  obtain ⟨F, d, e, r, sf, hd, he, ef, k⟩ := h
  unfold mulT at ef
  split at ef
  · split at ef
    · rename_i z n hl
      cases ef
      cases hd
      cases he
      obtain ⟨t, rfl⟩ := rx
      obtain ⟨t', rfl⟩ := ry
      obtain ⟨h0, h1, h2⟩ := hl
      refine SB.mul ⟨?_, fun h3 h4 h5 => ?_, fun h3 h4 => ?_⟩ fun t1 k1 => ⟨.str (Txt.mul z n), H, I.tok _, ⟨_, rfl⟩, k _ F H (Grow.refl sf) (.str _)⟩
      · rw [decide_eq_false (by omega), decide_eq_false (by omega)]
        rfl
      · have h6 : (1000 : Int) ≤ (2 ^ 63 - 1) / n := (Int.le_ediv_iff_mul_le (by omega)).mpr (by omega)
        omega
      · have h6 : z.length * n.toNat ≤ 1000 * 1000 := Nat.mul_le_mul h2 (by omega)
        refine decide_eq_false ?_
        rw [show sizeLine = 16777216 by decide]
        omega
    · cases ef
  · cases ef

/-! ### enumerate -/
def ItU (K : PySem.W.Frag) (a : Addr) : It :=
  ⟨fun i H => ∃ (xs : List V) (x : V), SqT K H a xs ∧ xs[i]? = some x, fun i H v H' => ∃ T x, v = .ref T ∧ H T = none ∧ H' = upd H T (.tup [.int (i : Nat), x]) ∧ ∀ xs, SqT K H a xs → xs[i]? = some x, fun i H => ∃ xs : List V, SqT K H a xs ∧ xs.length ≤ i⟩
theorem turn_enumT {P : Program} {w : World} {K : PySem.W.Frag} {elts : List Expr} {kk : Nat} {tpos : Pos} (a e it : Addr) (hai : a ≠ it) (hae : a ≠ e) :
    Turn P w K (.Tuple elts kk tpos) (ItU K a) [e, it] e (fun i h => (∃ old, IsEnum h e it ((i : Nat) : Int) old) ∧ h.IsTupleIter it a i ∧ e ≠ it) where
  mem := by simp
  obj := fun i h st b hb => by
    obtain ⟨⟨old, he⟩, ⟨o, ho, hc, hd⟩, _⟩ := st
    have e' : b = e ∨ b = it := by simpa using hb
    rcases e' with z | z
    · rw [z]; exact ⟨_, he, fun v q => nomatch q⟩
    · rw [z]; exact ⟨o, ho, fun v q => by rw [hd] at q; cases q⟩
  keep := fun i h h' st k => let ⟨⟨old, he⟩, hi, hne⟩ := st; ⟨⟨old, k e (by simp) _ he⟩, hi.at fun o q => k it (by simp) o q, hne⟩
  item := by
    intro X hP hw hK hc i pins s σ H E I hf st hg
    subst hP hw hK
    obtain ⟨⟨old, he⟩, hit, hne⟩ := st
    obtain ⟨xs, x, hq, hx⟩ := hg
    obtain ⟨its, rv, p, hz⟩ := I.tuple hq
    obtain ⟨u, hu, ru⟩ := rv.get hx
    have p' : s.heap.IsTuple a its.toArray := p
    have hel : e < s.heap.objs.size := Heap.lt_size he
    have hil : it < s.heap.objs.size := by obtain ⟨_, q, _⟩ := hit; exact Heap.lt_size q
    refine wpAny_pyNext_enum_itemD (fp := [it, a]) (Draws.tuple (A := X.A.in1) (I.ok.hd hc) it a hai its.toArray) he ⟨hit, p'⟩ (by have := (List.getElem?_eq_some_iff.mp hu).1; simpa using this) hne (by simp [hne, Ne.symm hae]) fun x' h' tk hP ho st' hT hsz hk => ?_
    have ex : x' = u := by
      have h1 : its.toArray[i]? = some u := by simpa using hu
      exact Option.some.inj (hP.symm.trans h1)
    subst ex
    obtain ⟨hit', _⟩ := st'
    refine ⟨_, rfl, wpAny_letOwnedTupleGo_enum (s := { s with heap := h', toks := tk + 1 }) ho fun h'' he' sb => ?_⟩
    have hT2 : h''.get? s.heap.objs.size = some { cls := .type "tuple", data := .seq #[.int i tk, x'] } := (sb.2 _ (Nat.ne_of_gt hel)).trans hT
    have new : ObjOk X.prog X.w (upd H s.heap.objs.size (.tup [.int (i : Nat), x])) h'' s.heap.objs.size (.tup [.int (i : Nat), x]) :=
      ⟨by show 2 ≤ sizeLine; decide, [.int i tk, x'], .cons ⟨_, rfl⟩ (.cons ru .nil), ⟨_, hT2, rfl, _, rfl⟩⟩
    have I1 : Inv X pins σ (upd H s.heap.objs.size (.tup [.int (i : Nat), x])) { s with heap := h'', toks := tk + 1 } :=
      I.turnedNew (ch := [e, it]) (fun b ob hb q => (sb.2 b (fun z => hb (by simp [z]))).trans (hk b ob (fun z => hb (by simp [z])) (fun z => hb (by simp [z])) q)) hf (Nat.le_refl _) new
    refine ⟨.ref s.heap.objs.size, _, I1, rfl, ⟨_, x, rfl, I.hok.fresh (Nat.le_refl _), rfl, fun ys hy => by rw [I.tuple_inj hy hq]; exact hx⟩, ⟨⟨x', ?_⟩, hit'.at fun o q => (sb.2 it (Ne.symm hne)).trans q, hne⟩, fun b hb => ?_⟩
    · have e1 : ((i + 1 : Nat) : Int) = (i : Int) + 1 := by omega
      rw [e1]; exact he'
    · have hb' : b < s.heap.objs.size := by
        have e' : b = e ∨ b = it := by simpa using hb
        rcases e' with z | z
        · rw [z]; exact hel
        · rw [z]; exact hil
      rw [upd_ne (Nat.ne_of_lt hb')]
      exact (hf b hb).1
  done := by
    intro X hP hw hK hc i pins s σ H E I hf st hg
    subst hP hw hK
    obtain ⟨⟨old, he⟩, hit, hne⟩ := st
    obtain ⟨xs, hq, hx⟩ := hg
    obtain ⟨its, rv, p, hz⟩ := I.tuple hq
    obtain ⟨f0, f1, f2, f3, f4, f5⟩ := hf it (by simp)
    have hl := rv.length
    have p' : s.heap.IsTuple a its.toArray := p
    have D : Draws X.prog X.w X.A.in1 it [it, a] i (fun _ _ => True) (fun j h => j = i ∧ h.IsTupleIter it a i ∧ h.IsTuple a its.toArray) :=
      { live := fun _ _ st => let ⟨o, ho, _⟩ := st.2.1; ⟨o, ho⟩
        frame := fun _ _ _ st hk => ⟨st.1, st.2.1.at fun o e => hk it (by simp) o e, st.2.2.at fun o e => hk a (by simp) o e⟩
        item := fun j s Q E hi st hQ => absurd st.1 (by omega)
        done := fun s Q E st hE => wpAny_nextOf_tuple_end (I.ok.hd hc) st.2.1 st.2.2 (by simp; omega) hE }
    exact wpAny_pyNext_enum_endD (n := i) D he ⟨rfl, hit, p'⟩ fun h' eb => ⟨rfl, I.turned (t' := s.toks) (fun b o hb q => eb b o hb q) f0 f1 f3 f4 f5⟩
  self := fun A i s Q E st h => let ⟨⟨_, he⟩, _⟩ := st; wpAny_pyIter_enum he h
section
variable {prog : Program} {w : World} {A : Around} {E : Value → Shared → Prop} {s : Shared}
theorem meets_enumerate_newT (l : Addr) (items : Array Value) :
    Meets (Builtin.«enumerate.__new__» ⟨[.type "enumerate", .ref l], []⟩) (fun _ R s => s.heap.IsTuple l items ∧
      R (.ok (.ret (.ref (s.heap.push { cls := .type "tuple_iterator", data := .fields #[.ref l, .int 0 0] }).objs.size)))
        { s with heap := (s.heap.push { cls := .type "tuple_iterator", data := .fields #[.ref l, .int 0 0] }).push { cls := .type "enumerate", data := .fields #[.none, .bool false, .ref s.heap.objs.size, rawInt 0, .none, .none] } }) :=
  .of_wp fun prog w A R s h => by
    obtain ⟨hp, g, d, tk, os⟩ := s; obtain ⟨hL, h⟩ := h
    have hsub := sub_enumerate
    obtain ⟨o, hl, hc, hd⟩ := id hL
    wp_walk using AutoSeq1.wpAny_loadPart' hl
    refine wpAny_stack_any fun st => wpAny_pure ?_
    split
    · rename_i c _ _ _ _ _
      cases (c == Value.type "enumerate")
      · wp_walk using AutoSeq1.wpAny_loadPart' hl, wpAny_pyIter_tuple hL
        exact ⟨_, rfl, h⟩
      · wp_walk using AutoSeq1.wpAny_loadPart' hl, wpAny_pyIter_tuple hL
        exact ⟨_, rfl, h⟩
    · wp_walk using AutoSeq1.wpAny_loadPart' hl, wpAny_pyIter_tuple hL
      exact ⟨_, rfl, h⟩
theorem call_enumerate_tuple {l : Addr} {items : Array Value} {Q : Value → Shared → Prop} (hL : s.heap.IsTuple l items)
    (h : ∀ h', IsEnum h' (s.heap.objs.size + 1) s.heap.objs.size 0 .none → h'.IsTupleIter s.heap.objs.size l 0 → h'.objs.size = s.heap.objs.size + 2 →
      (∀ b o, s.heap.get? b = some o → h'.get? b = some o) → Q (.ref (s.heap.objs.size + 1)) { s with heap := h' }) :
    wpAny (model prog w) A (call (.type "enumerate") [.ref l]) Q E s := by
  refine callType_new PySem.F.called_enumerate (by decide) (PySem.F.typeCall_enumerate_1 _) (PySem.F.newCall_enumerate_1 _) (fun obj => PySem.F.args_object_init_2 obj _) PySem.F.entry_enumerate_new
    (meets_enumerate_newT l items) ⟨hL, ?_⟩
  have hz : (s.heap.push { cls := .type "tuple_iterator", data := .fields #[.ref l, .int 0 0] }).objs.size = s.heap.objs.size + 1 := Heap.size_push ..
  show _ ∧ _
  rw [hz]
  have he : IsEnum ((s.heap.push { cls := .type "tuple_iterator", data := .fields #[.ref l, .int 0 0] }).push
      { cls := .type "enumerate", data := .fields #[.none, .bool false, .ref s.heap.objs.size, rawInt 0, .none, .none] }) (s.heap.objs.size + 1) s.heap.objs.size 0 .none := by
    have := Heap.get?_push_size (s.heap.push { cls := .type "tuple_iterator", data := .fields #[.ref l, .int 0 0] })
      (o := { cls := .type "enumerate", data := .fields #[.none, .bool false, .ref s.heap.objs.size, rawInt 0, .none, .none] }) rfl
    rw [hz] at this; exact this
  refine ⟨⟨_, he, rfl⟩, h _ he ⟨_, Heap.get?_push_of_some _ (Heap.get?_push_size _ rfl), rfl, rfl⟩ (by rw [Heap.size_push, hz]) fun b o x => Heap.get?_push_of_some _ (Heap.get?_push_of_some _ x)⟩
end
def iEnumA (K : PySem.W.Frag) (ta : TA) : TI := fun σ H R => ta σ H fun vs H1 => ∃ a xs, vs = [.ref a] ∧ ((SqL K H1 a xs ∧ R (Ite K a) H1) ∨ (SqT K H1 a xs ∧ R (ItU K a) H1))
theorem pi_enumA {ta : TA} {tpos : Pos} {elts : List Expr} {kk : Nat} (hg : Gl X "enumerate") (hm : X.mg "enumerate" = none) (ha : PA X [e] ta) (hs : starEach [e] X.env = [(false, eval e X.env)] := by rfl) :
    PI X (.Tuple elts kk tpos) (.Call (.Name "enumerate" p) [e] [] pos) (iEnumA X.K ta) := by
  refine ⟨fun pins s σ H R I h => ?_⟩
  refine Call_ (ld_blt I hg hm boot_enumerate (PyProof.Rows.callWith_type1 (thn (ha.run pos pins s σ H _ I h) fun us s1 ⟨vs, H1, I1, r1, q1⟩ => ?_) hs rfl))
  obtain ⟨a, xs, ex, q⟩ := q1
  subst ex
  cases r1 with
  | cons r rr =>
    cases rr
    cases r
    have fps : ∀ b ∈ [s1.heap.objs.size + 1, s1.heap.objs.size], FpOk X pins H1 b := fun b hb => by
      have e' : b = s1.heap.objs.size + 1 ∨ b = s1.heap.objs.size := by simpa using hb
      have hle : s1.heap.objs.size ≤ b := by
        rcases e' with z | z
        · rw [z]; exact Nat.le_add_right _ _
        · rw [z]; exact Nat.le_refl _
      exact I1.fpOk hle (I1.hok.fresh hle)
    rcases q with ⟨hq, q⟩ | ⟨hq, q⟩
    · obtain ⟨its, rv, p', hz⟩ := I1.list hq
      refine call_enumerate_list p'.isList fun h' he hit hsz hk => wpAny_pyIter_enum he ?_
      have I2 : Inv X pins σ H1 { s1 with heap := h' } := I1.kept (t' := s1.toks) hk
      exact ⟨s1.heap.objs.size + 1, [s1.heap.objs.size + 1, s1.heap.objs.size], _, _, H1, rfl, I2, turn_enum a (s1.heap.objs.size + 1) s1.heap.objs.size, ⟨⟨.none, he⟩, hit, Nat.succ_ne_self _⟩, fps, q⟩
    · obtain ⟨its, rv, p', hz⟩ := I1.tuple hq
      have p2 : s1.heap.IsTuple a its.toArray := p'
      have hal : a < s1.heap.objs.size := by obtain ⟨_, q, _⟩ := p2; exact Heap.lt_size q
      refine call_enumerate_tuple p2 fun h' he hit hsz hk => wpAny_pyIter_enum he ?_
      have I2 : Inv X pins σ H1 { s1 with heap := h' } := I1.kept (t' := s1.toks) hk
      exact ⟨s1.heap.objs.size + 1, [s1.heap.objs.size + 1, s1.heap.objs.size], _, _, H1, rfl, I2, turn_enumT a (s1.heap.objs.size + 1) s1.heap.objs.size (Nat.ne_of_lt hal) (Nat.ne_of_lt (Nat.lt_succ_of_lt hal)), ⟨⟨.none, he⟩, hit, Nat.succ_ne_self _⟩, fps, q⟩
def enumL : Nat → List D → List D
  | _, [] => []
  | i, d :: ds => .tuple [.int i, d] :: enumL (i + 1) ds
theorem enumL_len : ∀ (i : Nat) (ds : List D), (enumL i ds).length = ds.length
  | _, [] => rfl
  | i, d :: ds => congrArg (· + 1) (enumL_len (i + 1) ds)
theorem enumL_get : ∀ (i j : Nat) (ds : List D), (enumL i ds)[j]? = ds[j]?.map fun d => .tuple [.int (i + j : Nat), d]
  | _, _, [] => rfl
  | i, 0, d :: ds => rfl
  | i, j + 1, d :: ds => by
    have e := enumL_get (i + 1) j ds
    have e2 : i + 1 + j = i + (j + 1) := by omega
    rw [e2] at e
    exact e
def enumOf (ds : List D) : Option (List D) := match ds with
  | [.list xs] => some (enumL 0 xs)
  | [.tuple xs] => some (enumL 0 xs)
  | _ => none
def gEnum (gs : Md (List D)) : Md (List D) := fun ρ => (gs ρ).bind fun p => (enumOf p.1).bind fun ds => some (ds, p.2)
theorem it_enum {K : Kx} {F : Hp} {a : Addr} {vs : List V} {ds : List D} (h : SqL K F a vs) (r : RpAll K F vs ds) : ItOk K F (Ite K a) (enumL 0 ds) := fun F1 H s1 s2 i => by
  have hH := (s1.trans s2).seq h
  refine ⟨fun d e => ?_, fun hl => ⟨vs, hH, by rw [da_len r, ← enumL_len 0]; exact hl⟩⟩
  rw [enumL_get] at e
  obtain ⟨d0, e0, ed⟩ := Option.map_eq_some_iff.mp e
  subst ed
  obtain ⟨v, e1, rv⟩ := da_at r e0
  refine ⟨⟨vs, v, hH, e1⟩, fun y H' hy => ?_⟩
  obtain ⟨T, x, rfl, hT, rfl, hy⟩ := hy
  have e2 := (hy vs hH).symm.trans e1
  cases e2
  have gr : Grow F1 H (upd F1 T (.tup [.int (i : Nat), v])) (upd H T (.tup [.int (i : Nat), v])) := Grow.val s2 hT
  refine ⟨_, gr, .tup (.inl (.inl upd_same)) (.cons ?_ (.cons (dp_mono (s1.trans gr.ff) _ _ rv) .nil))⟩
  rw [Nat.zero_add]
  exact .int _
theorem it_enumT {K : Kx} {F : Hp} {a : Addr} {vs : List V} {ds : List D} (h : SqT K F a vs) (r : RpAll K F vs ds) : ItOk K F (ItU K a) (enumL 0 ds) := fun F1 H s1 s2 i => by
  have hH := seqT_same (s1.trans s2) h
  refine ⟨fun d e => ?_, fun hl => ⟨vs, hH, by rw [da_len r, ← enumL_len 0]; exact hl⟩⟩
  rw [enumL_get] at e
  obtain ⟨d0, e0, ed⟩ := Option.map_eq_some_iff.mp e
  subst ed
  obtain ⟨v, e1, rv⟩ := da_at r e0
  refine ⟨⟨vs, v, hH, e1⟩, fun y H' hy => ?_⟩
  obtain ⟨T, x, rfl, hT, rfl, hy⟩ := hy
  have e2 := (hy vs hH).symm.trans e1
  cases e2
  have gr : Grow F1 H (upd F1 T (.tup [.int (i : Nat), v])) (upd H T (.tup [.int (i : Nat), v])) := Grow.val s2 hT
  refine ⟨_, gr, .tup (.inl (.inl upd_same)) (.cons ?_ (.cons (dp_mono (s1.trans gr.ff) _ _ rv) .nil))⟩
  rw [Nat.zero_add]
  exact .int _
theorem di_enum {gs : Md (List D)} {tpos : Pos} {elts : List Expr} {kk : Nat} (hg : Gl X "enumerate") (hm : X.mg "enumerate" = none) (ha : DA X [e] gs) (hs : starEach [e] X.env = [(false, eval e X.env)] := by rfl) :
    DI X (.Tuple elts kk tpos) (.Call (.Name "enumerate" p) [e] [] pos) (gEnum gs) :=
  pi_imp (pi_enumA hg hm ha hs) fun σ H R q => by
    obtain ⟨F, ρ, ds, ρ', s, eg, k⟩ := q
    obtain ⟨⟨d, ρ1⟩, e1, eg1⟩ := bind_some eg
    obtain ⟨z, e2, eg2⟩ := bind_some eg1
    cases eg2
    refine ⟨F, ρ, d, _, s, e1, fun vs F1 H1 p1 s1 r1 => ?_⟩
    simp only at e2
    unfold enumOf at e2
    split at e2
    · cases e2
      obtain ⟨v, rfl, rv⟩ := da1 r1
      cases rv with
      | @lst a vs _ h1 d1 => exact ⟨a, vs, rfl, .inl ⟨s1.sub.seq h1, k _ F1 H1 p1 s1 (it_enum h1 d1)⟩⟩
    · cases e2
      obtain ⟨v, rfl, rv⟩ := da1 r1
      cases rv with
      | @tup a vs _ h1 d1 => exact ⟨a, vs, rfl, .inr ⟨seqT_same s1.sub h1, k _ F1 H1 p1 s1 (it_enumT h1 d1)⟩⟩
    · cases e2

/-! ### {k: v, ..} -/
def keyOf : D → Option Key
  | .int i => some (.inl i)
  | .str x => some (.inr x)
  | _ => none
def gKV : List (Md D × Md D) → Md (List (D × D))
  | [] => fun ρ => some ([], ρ)
  | (gk, gv) :: r => fun ρ => (gk ρ).bind fun p => (gv p.2).bind fun q => (gKV r q.2).bind fun z => some ((p.1, q.1) :: z.1, z.2)
def keysOk (es : List (D × D)) : Bool := es.all (fun p => (keyOf p.1).isSome) && decide ((es.map fun p => keyOf p.1).Nodup) && decide (es.length ≤ 15)
def gDic (gs : List (Md D × Md D)) : Md D := fun ρ => (gKV gs ρ).bind fun p => if keysOk p.1 = true then some (.dict p.1, p.2) else none
theorem keyD_of {d : D} {k : Key} (h : keyOf d = some k) : keyD k = d := by
  cases d <;> simp [keyOf] at h <;> subst h <;> rfl
theorem rp_key {K : Kx} {F : Hp} {v : V} {d : D} {k : Key} (r : Rp K F v d) (h : keyOf d = some k) : v = kV k := by
  cases d <;> simp [keyOf] at h <;> subst h <;> cases r <;> rfl
inductive DKV (X : Cx) (pos : Pos) : List (Option Expr) → List Expr → List (Md D × Md D) → Prop
  | nil : DKV X pos [] [] []
  | cons {k v : Expr} {ks : List (Option Expr)} {vs : List Expr} {gk gv : Md D} {r : List (Md D × Md D)} (h1 : DE X k gk) (h2 : DE X v gv) (h3 : DKV X pos ks vs r) : DKV X pos (some k :: ks) (v :: vs) ((gk, gv) :: r)
def tOf (X : Cx) (gs : List (Md D × Md D)) : List (TE × TE) := gs.map fun p => (tD (cxK X) p.1, tD (cxK X) p.2)
theorem DKV.pps {ks : List (Option Expr)} {vs : List Expr} {gs : List (Md D × Md D)} (h : DKV X pos ks vs gs) : PPs X pos ks vs (tOf X gs) := by
  induction h with
  | nil => exact pps_nil
  | cons h1 h2 h3 ih => exact pps_cons h1 h2 ih
theorem DKV.facts {ks : List (Option Expr)} {vs : List Expr} {gs : List (Md D × Md D)} (h : DKV X pos ks vs gs) : ks.all (·.isSome) = true ∧ ks.length = vs.length ∧ ks.length = gs.length := by
  induction h with
  | nil => exact ⟨rfl, rfl, rfl⟩
  | cons h1 h2 h3 ih => exact ⟨by simpa using ih.1, by simp [ih.2.1], by simp [ih.2.2]⟩
inductive RpP (K : Kx) (F : Hp) : List (V × V) → List (D × D) → Prop
  | nil : RpP K F [] []
  | cons {k v : V} {dk dv : D} {ps : List (V × V)} {es : List (D × D)} (h1 : Rp K F k dk) (h2 : Rp K F v dv) (h3 : RpP K F ps es) : RpP K F ((k, v) :: ps) ((dk, dv) :: es)
theorem tkv_q {K : Kx} : ∀ (gs : List (Md D × Md D)) {σ : L2.St} {F H : Hp} {ρ ρ' : Env} {es : List (D × D)} {Q : List (V × V) → Hp → Prop} (s : St K F H σ ρ) (e : gKV gs ρ = some (es, ρ'))
    (k : ∀ ps F' H', Stp F σ ρ H F' σ ρ' H' → St K F' H' σ ρ' → RpP K F' ps es → Q ps H'), tPairs (gs.map fun p => (tD K p.1, tD K p.2)) σ H Q
  | [], σ, F, H, ρ, ρ', es, Q, s, e, k => by
    cases e
    exact k [] F H Stp.refl s .nil
  | (gk, gv) :: r, σ, F, H, ρ, ρ', es, Q, s, e, k => by
    obtain ⟨⟨dk, ρ1⟩, e1, e⟩ := bind_some e
    obtain ⟨⟨dv, ρ2⟩, e2, e⟩ := bind_some e
    obtain ⟨⟨z, ρ3⟩, e3, e⟩ := bind_some e
    cases e
    refine ⟨F, ρ, dk, ρ1, s, e1, fun x F1 H1 p1 s1 r1 => ⟨F1, ρ1, dv, ρ2, s1, e2, fun y F2 H2 p2 s2 r2 => tkv_q r s2 e3 fun ps F3 H3 p3 s3 r3 => k _ F3 H3 ((p1.trans p2).trans p3) s3 (.cons (dp_mono (p2.ff.trans p3.ff) _ _ r1) (dp_mono p3.ff _ _ r2) r3)⟩⟩
theorem rpP_kv {K : Kx} {F : Hp} {ps : List (V × V)} {es : List (D × D)} (r : RpP K F ps es) : es.all (fun p => (keyOf p.1).isSome) = true → ∃ kvs : List (Key × V), ps = kvs.map (fun kv => (kV kv.1, kv.2)) ∧ RpKV K F kvs es ∧ kvs.map (fun kv => some kv.1) = es.map fun p => keyOf p.1 := by
  induction r with
  | nil => exact fun _ => ⟨[], rfl, .nil, rfl⟩
  | @cons k v dk dv ps es h1 h2 h3 ih =>
    intro hk
    rw [List.all_cons, Bool.and_eq_true] at hk
    obtain ⟨kvs, i1, i2, i3⟩ := ih hk.2
    obtain ⟨q, hq⟩ := Option.isSome_iff_exists.mp hk.1
    simp only at hq
    have e1 := rp_key h1 hq
    subst e1
    have e2 := keyD_of hq
    subst e2
    exact ⟨(q, v) :: kvs, by rw [i1]; rfl, .cons h2 i2, by simp [i3, hq]⟩
theorem putK_new {kvs : List (Key × V)} {k : Key} {v : V} (h : ∀ p ∈ kvs, p.1 ≠ k) : putK kvs k v = kvs ++ [(k, v)] := by
  unfold putK
  rw [if_neg]
  intro q
  obtain ⟨p, hp, e⟩ := List.any_eq_true.mp q
  exact h p hp (of_decide_eq_true e)
theorem mergeK_new : ∀ {more kvs : List (Key × V)}, ((kvs ++ more).map (·.1)).Nodup → mergeK kvs more = kvs ++ more
  | [], kvs, _ => (List.append_nil kvs).symm
  | (k, v) :: r, kvs, h => by
    have h1 : ∀ p ∈ kvs, p.1 ≠ k := fun p hp e => by
      rw [List.map_append, List.nodup_append] at h
      exact h.2.2 p.1 (List.mem_map.mpr ⟨p, hp, rfl⟩) k (by simp) e
    show mergeK (putK kvs k v) r = _
    rw [putK_new h1, mergeK_new (by simpa using h), List.append_assoc]
    rfl
theorem de_dic {ks : List (Option Expr)} {vs : List Expr} {gs : List (Md D × Md D)} (h : DKV X pos ks vs gs) (h0 : ks ≠ []) (h15 : ks.length ≤ 15) : DE X (.Dict ks vs pos) (gDic gs) :=
  pe_imp (pe_disp h.pps h.facts.1 h.facts.2.1 h0 h15) fun σ H Q q => by
    obtain ⟨F, ρ, d, ρ', s, eg, k⟩ := q
    obtain ⟨⟨es, ρ1⟩, e1, eg⟩ := bind_some eg
    simp only at eg
    split at eg
    · rename_i hk
      have ee := congrArg Prod.snd (Option.some.inj eg)
      have ed := congrArg Prod.fst (Option.some.inj eg)
      simp only at ee ed
      subst ee ed
      unfold keysOk at hk
      simp only [Bool.and_eq_true, decide_eq_true_eq] at hk
      obtain ⟨⟨hk1, hk2⟩, hk3⟩ := hk
      intro p hp
      have hF : F p = none := by
        cases z : F p with
        | none => rfl
        | some o => have := s.sub _ _ z; rw [hp] at this; cases this
      have hno : ¬ Owns σ ρ p := fun z => by
        obtain ⟨_, u, e⟩ := s.free z
        rw [hp] at e
        cases e
      have gr : Grow F H F (upd H p (.dK [])) := Grow.own s.sub hp
      refine tkv_q gs (s.grow gr) e1 fun ps F2 H2 p2 s2 r2 => ?_
      obtain ⟨k1, k2⟩ := p2.keep p _ upd_same hno
      obtain ⟨kvs, i1, i2, i3⟩ := rpP_kv r2 hk1
      have hl : kvs.length = es.length := by simpa using congrArg List.length i3
      have hnd : (kvs.map (·.1)).Nodup := by
        rw [← i3] at hk2
        have e4 : kvs.map (fun kv => some kv.1) = (kvs.map (·.1)).map some := by simp
        rw [e4] at hk2
        exact List.Pairwise.imp (fun h => fun e => h (congrArg some e)) (List.pairwise_map.mp hk2)
      refine ⟨k1, kvs, i1, by omega, ?_⟩
      have em : mergeK [] kvs = kvs := mergeK_new (kvs := []) (by simpa using hnd)
      rw [em]
      have hF2 : F2 p = none := k2.trans hF
      have p3 : Stp F σ ρ H F2 σ ρ1 H2 := (gr.stp σ ρ).trans p2
      have hn2 : ¬ Owns σ ρ1 p := fun z => by
        rcases p2.fresh p z with y | y
        · exact hno y
        · rw [upd_same] at y; cases y
      have sf : Same F2 (upd F2 p (.dK kvs)) := same_new hF2
      refine k (.ref p) (upd F2 p (.dK kvs)) (upd H2 p (.dK kvs)) ⟨p3.ff.trans sf, fun b o hb nb => ?_, p3.fresh, p3.fix, fun b o hb => ?_⟩ ?_ (.dic upd_same (dpKV_mono sf _ _ i2))
      · obtain ⟨j1, j2⟩ := p3.keep b o hb nb
        have nbp : b ≠ p := ne_of_none hb hp
        exact ⟨(upd_ne nbp).trans j1, (upd_ne nbp).trans j2⟩
      · obtain ⟨o', j⟩ := p3.dom b o hb
        exact ⟨o', (upd_ne (ne_of_none hb hp)).trans j⟩
      · refine ⟨fun b x hb => ?_, s2.len, fun i c hi => ?_, s2.dist⟩
        · by_cases z : b = p
          · subst z
            rw [upd_same] at hb ⊢
            exact hb
          · rw [upd_ne z] at hb ⊢
            exact s2.sub b x hb
        · have q := s2.cell i c hi
          cases c with
          | val d =>
            obtain ⟨v, j1, j2⟩ := q
            exact ⟨v, j1, dp_mono sf _ _ j2⟩
          | own f d =>
            obtain ⟨b, j1, j2⟩ := q
            have nb : b ≠ p := fun z => by
              subst z
              exact hn2 ⟨i, f, d, hi, j1⟩
            exact ⟨b, j1, (upd_ne nb).trans j2.1, j2.2.mono sf fun o j5 => (upd_ne nb).trans j5⟩
    · cases eg
end
end Dn
set_option maxHeartbeats 2000000
/-! sorted: data of whole numbers, texts, tuples of these; in a tuple the first place that differs decides -/
namespace DnSo
open PySem PySem.SeqAt PyProof.Rows PySem.W SrtO DnLt

def rk3 : PyData → Nat
  | .none => 0
  | .bool _ => 1
  | .int _ => 2
  | .str _ => 3
  | .tuple _ => 4
  | .list _ => 5
  | .dict _ => 6
mutual
def cmp3 : PyData → PyData → Ordering
  | .int i, .int j => if i < j then .lt else if j < i then .gt else .eq
  | .str a, .str b => if a.cps.toList < b.cps.toList then .lt else if b.cps.toList < a.cps.toList then .gt else .eq
  | .tuple xs, .tuple ys => cmpL xs ys
  | d, e => if rk3 d < rk3 e then .lt else if rk3 e < rk3 d then .gt else .eq
def cmpL : List PyData → List PyData → Ordering
  | [], [] => .eq
  | [], _ :: _ => .lt
  | _ :: _, [] => .gt
  | x :: xs, y :: ys => (cmp3 x y).then (cmpL xs ys)
end
theorem cmp3_rk {d e : PyData} (h : rk3 d ≠ rk3 e) : cmp3 d e = if rk3 d < rk3 e then .lt else .gt := by
  have hl : ¬ rk3 d < rk3 e → rk3 e < rk3 d := by omega
  cases d <;> cases e <;> first | (exfalso; exact h rfl) | (simp [cmp3, rk3])
theorem lst_tri (a b : List Nat) : a < b ∨ a = b ∨ b < a := by
  by_cases h : a < b
  · exact .inl h
  · by_cases h2 : b < a
    · exact .inr (.inr h2)
    · exact .inr (.inl (List.le_antisymm (List.not_lt.mp h2) (List.not_lt.mp h)))
theorem rk_le {d e : PyData} (h : cmp3 d e ≠ .gt) : rk3 d ≤ rk3 e := by
  by_cases q : rk3 d = rk3 e
  · omega
  · rw [cmp3_rk q] at h
    by_cases a : rk3 d < rk3 e
    · omega
    · simp [a] at h
theorem rk_lt {d e : PyData} (h : rk3 d < rk3 e) : cmp3 d e = .lt := by
  rw [cmp3_rk (by omega), if_pos h]
theorem swap_rk {d e : PyData} (h : rk3 d ≠ rk3 e) : cmp3 e d = (cmp3 d e).swap := by
  rw [cmp3_rk h, cmp3_rk (Ne.symm h)]
  by_cases a : rk3 d < rk3 e
  · rw [if_pos a, if_neg (by omega)]
    rfl
  · rw [if_neg a, if_pos (by omega)]
    rfl
theorem trans_rk {d e f : PyData} (h : ¬ (rk3 d = rk3 e ∧ rk3 e = rk3 f)) (h1 : cmp3 d e ≠ .gt) (h2 : cmp3 e f ≠ .gt) : cmp3 d f = (cmp3 d e).then (cmp3 e f) := by
  have a := rk_le h1
  have b := rk_le h2
  rw [rk_lt (show rk3 d < rk3 f by omega)]
  by_cases q : rk3 d < rk3 e
  · rw [rk_lt q]
    rfl
  · rw [rk_lt (show rk3 e < rk3 f by omega)]
    cases hc : cmp3 d e with
    | lt => rfl
    | eq => rfl
    | gt => exact absurd hc h1
theorem trans_int {i j k : Int} (h1 : cmp3 (.int i) (.int j) ≠ .gt) (h2 : cmp3 (.int j) (.int k) ≠ .gt) : cmp3 (.int i) (.int k) = (cmp3 (.int i) (.int j)).then (cmp3 (.int j) (.int k)) := by
  simp only [cmp3] at h1 h2 ⊢
  have e1 : ¬ j < i := fun z => by
    rw [if_neg (show ¬ i < j by omega), if_pos z] at h1
    exact h1 rfl
  have e2 : ¬ k < j := fun z => by
    rw [if_neg (show ¬ j < k by omega), if_pos z] at h2
    exact h2 rfl
  by_cases a : i < j
  · rw [if_pos a, if_pos (show i < k by omega)]
    rfl
  · have : i = j := by omega
    subst this
    rw [if_neg a, if_neg a]
    rfl
theorem trans_str {i j k : Str} (h1 : cmp3 (.str i) (.str j) ≠ .gt) (h2 : cmp3 (.str j) (.str k) ≠ .gt) : cmp3 (.str i) (.str k) = (cmp3 (.str i) (.str j)).then (cmp3 (.str j) (.str k)) := by
  simp only [cmp3] at h1 h2 ⊢
  generalize i.cps.toList = i at h1 ⊢
  generalize k.cps.toList = k at h2 ⊢
  generalize j.cps.toList = j at h1 h2 ⊢
  have e1 : ¬ j < i := fun z => by
    rw [if_neg (fun y => List.lt_asymm y z), if_pos z] at h1
    exact h1 rfl
  have e2 : ¬ k < j := fun z => by
    rw [if_neg (fun y => List.lt_asymm y z), if_pos z] at h2
    exact h2 rfl
  by_cases a : i < j
  · have b : i < k := by
      rcases lst_tri j k with h | h | h
      · exact List.lt_trans a h
      · exact h ▸ a
      · exact absurd h e2
    rw [if_pos a, if_pos b]
    rfl
  · have : i = j := List.le_antisymm (List.not_lt.mp e1) (List.not_lt.mp a)
    subst this
    rw [if_neg a, if_neg a]
    rfl
mutual
theorem trans3 : ∀ (d e f : PyData), cmp3 d e ≠ .gt → cmp3 e f ≠ .gt → cmp3 d f = (cmp3 d e).then (cmp3 e f)
  | .tuple xs, e, f, h1, h2 => by
    by_cases q : rk3 (.tuple xs) = rk3 e ∧ rk3 e = rk3 f
    · obtain ⟨q1, q2⟩ := q
      cases e <;> simp only [rk3, reduceCtorEq, Nat.reduceEqDiff] at q1
      cases f <;> simp only [rk3, reduceCtorEq, Nat.reduceEqDiff] at q2
      simp only [cmp3] at h1 h2 ⊢
      exact transL xs _ _ h1 h2
    · exact trans_rk q h1 h2
  | .int i, e, f, h1, h2 => by
    by_cases q : rk3 (.int i) = rk3 e ∧ rk3 e = rk3 f
    · obtain ⟨q1, q2⟩ := q
      cases e <;> simp only [rk3, reduceCtorEq, Nat.reduceEqDiff] at q1
      cases f <;> simp only [rk3, reduceCtorEq, Nat.reduceEqDiff] at q2
      exact trans_int h1 h2
    · exact trans_rk q h1 h2
  | .str i, e, f, h1, h2 => by
    by_cases q : rk3 (.str i) = rk3 e ∧ rk3 e = rk3 f
    · obtain ⟨q1, q2⟩ := q
      cases e <;> simp only [rk3, reduceCtorEq, Nat.reduceEqDiff] at q1
      cases f <;> simp only [rk3, reduceCtorEq, Nat.reduceEqDiff] at q2
      exact trans_str h1 h2
    · exact trans_rk q h1 h2
  | .none, e, f, h1, h2 => by
    by_cases q : rk3 .none = rk3 e ∧ rk3 e = rk3 f
    · obtain ⟨q1, q2⟩ := q
      cases e <;> simp only [rk3, reduceCtorEq, Nat.reduceEqDiff] at q1
      cases f <;> simp only [rk3, reduceCtorEq, Nat.reduceEqDiff] at q2
      simp [cmp3, rk3]
    · exact trans_rk q h1 h2
  | .bool i, e, f, h1, h2 => by
    by_cases q : rk3 (.bool i) = rk3 e ∧ rk3 e = rk3 f
    · obtain ⟨q1, q2⟩ := q
      cases e <;> simp only [rk3, reduceCtorEq, Nat.reduceEqDiff] at q1
      cases f <;> simp only [rk3, reduceCtorEq, Nat.reduceEqDiff] at q2
      simp [cmp3, rk3]
    · exact trans_rk q h1 h2
  | .list i, e, f, h1, h2 => by
    by_cases q : rk3 (.list i) = rk3 e ∧ rk3 e = rk3 f
    · obtain ⟨q1, q2⟩ := q
      cases e <;> simp only [rk3, reduceCtorEq, Nat.reduceEqDiff] at q1
      cases f <;> simp only [rk3, reduceCtorEq, Nat.reduceEqDiff] at q2
      simp [cmp3, rk3]
    · exact trans_rk q h1 h2
  | .dict i, e, f, h1, h2 => by
    by_cases q : rk3 (.dict i) = rk3 e ∧ rk3 e = rk3 f
    · obtain ⟨q1, q2⟩ := q
      cases e <;> simp only [rk3, reduceCtorEq, Nat.reduceEqDiff] at q1
      cases f <;> simp only [rk3, reduceCtorEq, Nat.reduceEqDiff] at q2
      simp [cmp3, rk3]
    · exact trans_rk q h1 h2
theorem transL : ∀ (xs ys zs : List PyData), cmpL xs ys ≠ .gt → cmpL ys zs ≠ .gt → cmpL xs zs = (cmpL xs ys).then (cmpL ys zs)
  | [], [], zs, _, _ => by cases zs <;> rfl
  | [], _ :: _, [], _, h2 => absurd rfl h2
  | [], _ :: _, _ :: _, _, _ => rfl
  | _ :: _, [], _, h1, _ => absurd rfl h1
  | _ :: _, _ :: _, [], _, h2 => absurd rfl h2
  | x :: xs, y :: ys, z :: zs, h1, h2 => by
    simp only [cmpL] at h1 h2 ⊢
    have g1 : cmp3 x y ≠ .gt := fun q => by rw [q] at h1; exact h1 rfl
    have g2 : cmp3 y z ≠ .gt := fun q => by rw [q] at h2; exact h2 rfl
    rw [trans3 x y z g1 g2]
    cases q1 : cmp3 x y with
    | gt => exact absurd q1 g1
    | lt => rfl
    | eq =>
      cases q2 : cmp3 y z with
      | gt => exact absurd q2 g2
      | lt =>
        rw [q1] at h1
        cases q3 : cmpL xs ys with
        | gt => rw [q3] at h1; exact absurd rfl h1
        | lt => rfl
        | eq => rfl
      | eq =>
        rw [q1] at h1
        rw [q2] at h2
        exact transL xs ys zs h1 h2
end
mutual
theorem swap3 : ∀ (d e : PyData), cmp3 e d = (cmp3 d e).swap
  | .tuple xs, e => by
    by_cases q : rk3 (.tuple xs) = rk3 e
    · cases e <;> simp only [rk3, reduceCtorEq, Nat.reduceEqDiff] at q
      simp only [cmp3]
      exact swapL xs _
    · exact swap_rk q
  | .int i, e => by
    by_cases q : rk3 (.int i) = rk3 e
    · cases e <;> simp only [rk3, reduceCtorEq, Nat.reduceEqDiff] at q
      rename_i j
      simp only [cmp3]
      by_cases a : i < j
      · rw [if_pos a, if_neg (by omega), if_pos a]
        rfl
      · by_cases b : j < i
        · rw [if_pos b, if_neg a, if_pos b]
          rfl
        · rw [if_neg b, if_neg a, if_neg a, if_neg b]
          rfl
    · exact swap_rk q
  | .str i, e => by
    by_cases q : rk3 (.str i) = rk3 e
    · cases e <;> simp only [rk3, reduceCtorEq, Nat.reduceEqDiff] at q
      rename_i j
      simp only [cmp3]
      by_cases a : i.cps.toList < j.cps.toList
      · rw [if_pos a, if_neg (fun z => List.lt_asymm a z), if_pos a]
        rfl
      · by_cases b : j.cps.toList < i.cps.toList
        · rw [if_pos b, if_neg a, if_pos b]
          rfl
        · rw [if_neg b, if_neg a, if_neg a, if_neg b]
          rfl
    · exact swap_rk q
  | .none, e => by
    by_cases q : rk3 .none = rk3 e
    · cases e <;> simp only [rk3, reduceCtorEq, Nat.reduceEqDiff] at q
      simp [cmp3, rk3]
    · exact swap_rk q
  | .bool i, e => by
    by_cases q : rk3 (.bool i) = rk3 e
    · cases e <;> simp only [rk3, reduceCtorEq, Nat.reduceEqDiff] at q
      simp [cmp3, rk3]
    · exact swap_rk q
  | .list i, e => by
    by_cases q : rk3 (.list i) = rk3 e
    · cases e <;> simp only [rk3, reduceCtorEq, Nat.reduceEqDiff] at q
      simp [cmp3, rk3]
    · exact swap_rk q
  | .dict i, e => by
    by_cases q : rk3 (.dict i) = rk3 e
    · cases e <;> simp only [rk3, reduceCtorEq, Nat.reduceEqDiff] at q
      simp [cmp3, rk3]
    · exact swap_rk q
theorem swapL : ∀ (xs ys : List PyData), cmpL ys xs = (cmpL xs ys).swap
  | [], [] => rfl
  | [], _ :: _ => rfl
  | _ :: _, [] => rfl
  | x :: xs, y :: ys => by
    simp only [cmpL]
    rw [swap3 x y, swapL xs ys]
    cases cmp3 x y <;> rfl
end
theorem swo3 : Swo (fun d e : PyData => cmp3 d e == .lt) := by
  refine ⟨fun x y h => ?_, fun x y z h1 h2 => ?_⟩
  · have e : cmp3 x y = .lt := by simpa using h
    rw [swap3 x y, e]
    rfl
  · have a1 : cmp3 x y ≠ .gt := fun q => by
      rw [swap3 x y, q] at h1
      exact absurd h1 (by decide)
    have a2 : cmp3 y z ≠ .gt := fun q => by
      rw [swap3 y z, q] at h2
      exact absurd h2 (by decide)
    have a3 := trans3 x y z a1 a2
    rw [swap3 x z, a3]
    cases q1 : cmp3 x y with
    | gt => exact absurd q1 a1
    | lt => rfl
    | eq =>
      cases q2 : cmp3 y z with
      | gt => exact absurd q2 a2
      | lt => rfl
      | eq => rfl
/-! plain data that stand in an order: whole numbers, texts, tuples -/
mutual
def ord0 : PyData → Bool
  | .int _ => true
  | .str _ => true
  | .tuple xs => ordL xs
  | _ => false
def ordL : List PyData → Bool
  | [] => true
  | x :: xs => ord0 x && ordL xs
end
mutual
theorem eq_of_cmp : ∀ (d e : PyData), ord0 d = true → ord0 e = true → cmp3 d e = .eq → d = e
  | .tuple xs, e, h1, h2, h => by
    cases e <;> simp only [ord0, Bool.false_eq_true] at h2
    · simp [cmp3, rk3] at h
    · simp [cmp3, rk3] at h
    · simp only [cmp3] at h
      rw [eqL_of_cmp xs _ (by simpa [ord0] using h1) h2 h]
  | .int i, e, h1, h2, h => by
    cases e <;> simp only [ord0, Bool.false_eq_true] at h2
    · simp only [cmp3] at h
      rename_i j
      by_cases a : i < j
      · simp [a] at h
      · by_cases b : j < i
        · simp [a, b] at h
        · rw [show i = j by omega]
    · simp [cmp3, rk3] at h
    · simp [cmp3, rk3] at h
  | .str i, e, h1, h2, h => by
    cases e <;> simp only [ord0, Bool.false_eq_true] at h2
    · simp [cmp3, rk3] at h
    · simp only [cmp3] at h
      rename_i j
      by_cases a : i.cps.toList < j.cps.toList
      · simp [a] at h
      · by_cases b : j.cps.toList < i.cps.toList
        · simp [a, b] at h
        · rw [PySem.W.str_of_cps (List.le_antisymm (List.not_lt.mp b) (List.not_lt.mp a))]
    · simp [cmp3, rk3] at h
  | .none, _, h, _, _ => by cases h
  | .bool _, _, h, _, _ => by cases h
  | .list _, _, h, _, _ => by cases h
  | .dict _, _, h, _, _ => by cases h
theorem eqL_of_cmp : ∀ (xs ys : List PyData), ordL xs = true → ordL ys = true → cmpL xs ys = .eq → xs = ys
  | [], [], _, _, _ => rfl
  | [], _ :: _, _, _, h => by cases h
  | _ :: _, [], _, _, h => by cases h
  | x :: xs, y :: ys, h1, h2, h => by
    simp only [ordL, Bool.and_eq_true] at h1 h2
    simp only [cmpL] at h
    cases q : cmp3 x y with
    | lt => rw [q] at h; cases h
    | gt => rw [q] at h; cases h
    | eq =>
      rw [q] at h
      rw [eq_of_cmp x y h1.1 h2.1 q, eqL_of_cmp xs ys h1.2 h2.2 h]
end
theorem cmp_self (d : PyData) : cmp3 d d = .eq := by
  have h := swap3 d d
  cases q : cmp3 d d with
  | eq => rfl
  | lt => rw [q] at h; cases h
  | gt => rw [q] at h; cases h
mutual
theorem eq_of_eqv : ∀ (d e : PyData), ord0 d = true → ord0 e = true → PyData.eqv d e = true → d = e
  | .tuple xs, e, h1, h2, h => by
    cases e <;> simp only [ord0, Bool.false_eq_true] at h2
    · simp [PyData.eqv] at h
    · simp [PyData.eqv] at h
    · simp only [PyData.eqv] at h
      rw [eqL_of_eqv xs _ (by simpa [ord0] using h1) h2 h]
  | .int i, e, h1, h2, h => by
    cases e <;> simp only [ord0, Bool.false_eq_true] at h2
    · simp [PyData.eqv] at h
      rw [h]
    · simp [PyData.eqv] at h
    · simp [PyData.eqv] at h
  | .str i, e, h1, h2, h => by
    cases e <;> simp only [ord0, Bool.false_eq_true] at h2
    · simp [PyData.eqv] at h
    · simp [PyData.eqv] at h
      rw [h]
    · simp [PyData.eqv] at h
  | .none, _, h, _, _ => by cases h
  | .bool _, _, h, _, _ => by cases h
  | .list _, _, h, _, _ => by cases h
  | .dict _, _, h, _, _ => by cases h
theorem eqL_of_eqv : ∀ (xs ys : List PyData), ordL xs = true → ordL ys = true → PyData.eqvAll xs ys = true → xs = ys
  | [], [], _, _, _ => rfl
  | [], _ :: _, _, _, h => by simp [PyData.eqvAll] at h
  | _ :: _, [], _, _, h => by simp [PyData.eqvAll] at h
  | x :: xs, y :: ys, h1, h2, h => by
    simp only [ordL, Bool.and_eq_true] at h1 h2
    simp only [PyData.eqvAll, Bool.and_eq_true] at h
    rw [eq_of_eqv x y h1.1 h2.1 h.1, eqL_of_eqv xs ys h1.2 h2.2 h.2]
end
mutual
theorem eqv_self : ∀ (d : PyData), ord0 d = true → PyData.eqv d d = true
  | .tuple xs, h => by
    simp only [PyData.eqv]
    exact eqvL_self xs h
  | .int i, _ => by simp [PyData.eqv]
  | .str i, _ => by simp [PyData.eqv]
  | .none, h => by cases h
  | .bool _, h => by cases h
  | .list _, h => by cases h
  | .dict _, h => by cases h
theorem eqvL_self : ∀ (xs : List PyData), ordL xs = true → PyData.eqvAll xs xs = true
  | [], _ => rfl
  | x :: xs, h => by
    simp only [ordL, Bool.and_eq_true] at h
    simp only [PyData.eqvAll, eqv_self x h.1, eqvL_self xs h.2, Bool.and_self]
end
mutual
theorem cmp_of_ltB : ∀ (d e : PyData) (b : Bool), ord0 d = true → ord0 e = true → ltB d e = some b → b = (cmp3 d e == .lt)
  | .tuple xs, e, b, h1, h2, h => by
    cases e <;> simp only [ord0, Bool.false_eq_true] at h2
    · simp [ltB] at h
    · simp [ltB] at h
    · simp only [ltB] at h
      simp only [cmp3]
      exact cmp_of_ltA xs _ b h1 h2 h
  | .int i, e, b, h1, h2, h => by
    cases e <;> simp only [ord0, Bool.false_eq_true] at h2
    · simp only [ltB, Option.some.injEq] at h
      rename_i j
      rw [← h]
      simp only [cmp3]
      by_cases a : i < j
      · simp [a]
      · by_cases c : j < i <;> simp [a, c]
    · simp [ltB] at h
    · simp [ltB] at h
  | .str i, e, b, h1, h2, h => by
    cases e <;> simp only [ord0, Bool.false_eq_true] at h2
    · simp [ltB] at h
    · simp only [ltB, Option.some.injEq] at h
      rename_i j
      rw [← h]
      simp only [cmp3]
      by_cases a : i.cps.toList < j.cps.toList
      · simp [a]
      · by_cases c : j.cps.toList < i.cps.toList <;> simp [a, c]
    · simp [ltB] at h
  | .none, _, _, h, _, _ => by cases h
  | .bool _, _, _, h, _, _ => by cases h
  | .list _, _, _, h, _, _ => by cases h
  | .dict _, _, _, h, _, _ => by cases h
theorem cmp_of_ltA : ∀ (xs ys : List PyData) (b : Bool), ordL xs = true → ordL ys = true → ltA xs ys = some b → b = (cmpL xs ys == .lt)
  | [], [], b, _, _, h => by
    simp only [ltA, Option.some.injEq] at h
    rw [← h]
    rfl
  | [], _ :: _, b, _, _, h => by
    simp only [ltA, Option.some.injEq] at h
    rw [← h]
    rfl
  | _ :: _, [], b, _, _, h => by
    simp only [ltA, Option.some.injEq] at h
    rw [← h]
    rfl
  | x :: xs, y :: ys, b, h1, h2, h => by
    simp only [ordL, Bool.and_eq_true] at h1 h2
    simp only [cmpL]
    rw [ltA] at h
    by_cases q : PyData.eqv x y = true
    · rw [if_pos q] at h
      have e := eq_of_eqv x y h1.1 h2.1 q
      subst e
      rw [cmp_self]
      exact cmp_of_ltA xs ys b h1.2 h2.2 h
    · rw [if_neg q] at h
      have e := cmp_of_ltB x y b h1.1 h2.1 h
      cases c : cmp3 x y with
      | lt => rw [c] at e; exact e
      | gt => rw [c] at e; exact e
      | eq =>
        have := eq_of_cmp x y h1.1 h2.1 c
        subst this
        exact absurd (eqv_self x h1.1) q
end
/-- sorted by cmp3 -/
def leD3 (d e : PyData) : Bool := !(cmp3 e d == .lt)
theorem sort_one {ds out : List PyData} (h0 : ∀ d ∈ ds, ord0 d = true) (hp : out.Perm ds) (hs : out.Pairwise fun x y => (cmp3 y x == .lt) = false) : out = ds.mergeSort leD3 := by
  have O := swo3
  refine List.Perm.eq_of_pairwise (le := fun x y => leD3 x y = true) (fun a b ha hb h1 h2 => ?_) (hs.imp fun h => by simp [leD3, h]) (List.pairwise_mergeSort (fun a b c h1 h2 => ?_) (fun a b => ?_) ds) (hp.trans (List.mergeSort_perm ds leD3).symm)
  · have a0 := h0 a (hp.mem_iff.mp ha)
    have b0 := h0 b ((List.mergeSort_perm ds leD3).mem_iff.mp hb)
    refine eq_of_cmp a b a0 b0 ?_
    cases c : cmp3 a b with
    | eq => rfl
    | lt => simp [leD3, c] at h2
    | gt =>
      have := swap3 a b
      rw [c] at this
      simp [leD3, this] at h1
  · simp only [leD3, Bool.not_eq_true'] at h1 h2 ⊢
    exact O.tr a b c h1 h2
  · unfold leD3
    cases c : (cmp3 b a == .lt) with
    | false => rfl
    | true =>
      rw [O.asym b a c]
      rfl

/-! the comparison of the sort -/
section
variable {prog : Program} {w : World} {A : Around} {E : Value → Shared → Prop} {s : Shared} {b fin : Bool} {Q : Bool → Shared → Prop}
theorem kat_reads : ∀ (xs ys : List PyData) (vs ws : List Value) (as bs : List Addr) (k : Bool) (i : Nat), ReadsAll s.heap vs xs as → ReadsAll s.heap ws ys bs → ltA xs ys = some k → PyData.canLayAll0 xs = true → PyData.canLayAll0 ys = true →
    A.units + PyData.depthAll xs < cLine → fin = decide (vs.length < ws.length) → ((b && i == 0) = true → ∀ x r y t, xs = x :: r → ys = y :: t → ∃ i j, x = .int i ∧ y = .int j) → Q k s → KatLex prog w A b fin Q (vs.zip ws) i s
  | [], [], _, _, _, _, k, i, ra, rb, h, _, _, _, hf, _, q => by
    cases ra
    cases rb
    simp only [ltA, Option.some.injEq] at h
    rw [← h] at q
    rw [hf]
    exact kat_nil q
  | [], _ :: _, _, _, _, _, k, i, ra, rb, h, _, _, _, hf, _, q => by
    cases ra
    cases rb
    simp only [ltA, Option.some.injEq] at h
    rw [← h] at q
    rw [hf]
    exact kat_nil (by simpa using q)
  | _ :: _, [], _, _, _, _, k, i, ra, rb, h, _, _, _, hf, _, q => by
    cases ra
    cases rb
    simp only [ltA, Option.some.injEq] at h
    rw [← h] at q
    rw [hf]
    exact kat_nil (by simpa using q)
  | x :: xs, y :: ys, _, _, _, _, k, i, ra, rb, h, c1, c2, hu, hf, hi, q => by
    have d1 : x.canLay0 = true ∧ PyData.canLayAll0 xs = true := by simpa [PyData.canLayAll0] using c1
    have d2 : y.canLay0 = true ∧ PyData.canLayAll0 ys = true := by simpa [PyData.canLayAll0] using c2
    have hd : A.units + max x.depth (PyData.depthAll xs) < cLine := by simpa [PyData.depthAll] using hu
    cases ra with
    | cons r rs =>
      cases rb with
      | cons t ts =>
        have e := eqAt_reads x y A s _ _ _ _ r t d1.1 d2.1 (by omega)
        rw [ltA] at h
        rw [List.zip_cons_cons]
        refine kat_cons (e prog w _ _ ?_)
        by_cases z : PyData.eqv x y = true
        · rw [if_pos z] at h
          rw [z]
          refine kat_yes (kat_reads xs ys _ _ _ _ k (i + 1) rs ts h d1.2 d2.2 (by omega) (by rw [hf]; simp) (fun n => ?_) q)
          simp at n
        · rw [if_neg z] at h
          have z' : PyData.eqv x y = false := by simpa using z
          rw [z']
          refine kat_no ?_
          cases hb : (b && i == 0) with
          | true =>
            obtain ⟨m, n, rfl, rfl⟩ := hi hb _ _ _ _ rfl rfl
            cases r
            cases t
            simp only [ltB, Option.some.injEq] at h
            refine oneLt_int ?_
            rw [h]
            exact q
          | false => exact kat_one _ _ (rc_lt x y A s _ _ _ _ k r t h d1.1 d2.1 (by omega) prog w _ _ q)
end
end DnSo
set_option maxHeartbeats 2000000
/-! sorted(xs) -/
namespace DnSo
open PySem PySem.SeqAt PyProof.Rows PySem.W SrtO DnLt
noncomputable def kOf (h : Heap) (v : Value) : PyData := by
  classical
  exact if q : ∃ d as, Reads h v d as then Classical.choose q else .none
theorem kOf_eq {h : Heap} {v : Value} {d : PyData} {as : List Addr} (r : Reads h v d as) : kOf h v = d := by
  unfold kOf
  have q : ∃ d as, Reads h v d as := ⟨d, as, r⟩
  rw [dif_pos q]
  obtain ⟨bs, r2⟩ := Classical.choose_spec q
  exact (Reads.unique r2 _ _ r).1
def isI : PyData → Bool
  | .int _ => true
  | _ => false
def isT : PyData → Bool
  | .tuple _ => true
  | _ => false
/-- a tuple whose first item is such -/
def fst1 (p : PyData → Bool) : PyData → Bool
  | .tuple (x :: _) => p x
  | _ => false
def sortOk (ds : List PyData) : Bool := decide (ds.length ≤ 16777216) && ds.all (fun d => ord0 d && d.canLay0 && decide (d.depth ≤ 8)) && ds.all (fun d => ds.all fun e => (ltB d e).isSome) && (ds.all (fst1 isI) || ds.all (fst1 isT) || ds.all isI)
section
variable {prog : Program} {w : World} {A : Around} {E : Value → Shared → Prop} {s : Shared}
noncomputable def ltK (h : Heap) (v u : Value) : Bool := cmp3 (kOf h v) (kOf h u) == .lt
theorem swoK (h : Heap) : Swo (ltK h) := ⟨fun x y => swo3.asym _ _, fun x y z => swo3.tr _ _ _⟩
theorem katTups_of {h : Heap} (p : PyData → Bool) : ∀ {vs : List Value}, (∀ v ∈ vs, ∃ d as, Reads h v d as ∧ fst1 p d = true) → ∃ fs, KatTups h vs fs ∧ fs.length = vs.length ∧ ∀ f ∈ fs, ∃ x as, Reads h f x as ∧ p x = true
  | [], _ => ⟨[], .nil, rfl, by simp⟩
  | v :: vs, hv => by
    obtain ⟨fs, k1, k2, k3⟩ := katTups_of p (vs := vs) fun u hu => hv u (List.mem_cons_of_mem _ hu)
    obtain ⟨d, as, r, hp⟩ := hv v List.mem_cons_self
    cases d <;> simp only [fst1, Bool.false_eq_true] at hp
    rename_i xs
    cases xs with
    | nil => simp at hp
    | cons x xs =>
      simp only at hp
      cases r with
      | tuple h1 h2 h3 h4 =>
        rename_i a o us n
        cases us with
        | mk ul =>
          cases h4 with
          | cons r1 r2 =>
            rename_i f us2 _ _
            refine ⟨f :: fs, .cons h1 h2 h3 (by simp) k1, by simp [k2], fun g hg => ?_⟩
            rcases List.mem_cons.mp hg with e | e
            · subst e
              exact ⟨x, _, r1, hp⟩
            · exact k3 g e
theorem sortableK {h0 : Heap} {a : Addr} {vs : List Value} {ds : List PyData} (hv : ∀ v ∈ vs, ∃ d as, d ∈ ds ∧ Reads h0 v d as) (ok : sortOk ds = true) (h2 : 2 ≤ vs.length) (hk : ∀ b o, h0.get? b = some o → b ≠ a ∧ s.heap.get? b = some o) (hu : A.units + 20 < cLine) : SortableO prog w A s a vs (ltK h0) := by
  unfold sortOk at ok
  simp only [Bool.and_eq_true, List.all_eq_true, decide_eq_true_eq, Bool.or_eq_true] at ok
  obtain ⟨⟨⟨_, hd⟩, hc⟩, hkind⟩ := ok
  intro h' keep
  have ext : ∀ b o, h0.get? b = some o → h'.get? b = some o := fun b o e => keep b o (hk b o e).1 (hk b o e).2
  have cmpT : ∀ b : Bool, (∀ d ∈ ds, isT d = true) → (b = true → ∀ d ∈ ds, fst1 isI d = true) → Cmp prog w A { s with heap := h' } (tuples' b) (fun p => p.1 ∈ vs) (lt2 (ltK h0)) := by
    intro b hT hb p q hm hm'
    obtain ⟨d, as, hd1, r1⟩ := hv _ hm
    obtain ⟨e, bs, hd2, r2⟩ := hv _ hm'
    show wpAny (model prog w) A (keyLt' (tuples' b) p.1 q.1) (fun r s' => s' = { s with heap := h' } ∧ r = ltK h0 p.1 q.1) (fun _ _ => False) { s with heap := h' }
    obtain ⟨k, hk1⟩ := Option.isSome_iff_exists.mp (hc d hd1 e hd2)
    have e1 : ltK h0 p.1 q.1 = k := by
      unfold ltK
      rw [kOf_eq r1, kOf_eq r2]
      exact (cmp_of_ltB d e k (hd d hd1).1.1 (hd e hd2).1.1 hk1).symm
    rw [e1]
    have r1' := Reads.keeps ext r1
    have r2' := Reads.keeps ext r2
    have t1 := hT d hd1
    have t2 := hT e hd2
    have c1 := (hd d hd1).1.2
    have c2 := (hd e hd2).1.2
    have dp := (hd d hd1).2
    have b1 : b = true → fst1 isI d = true ∧ fst1 isI e = true := fun z => ⟨hb z d hd1, hb z e hd2⟩
    cases d <;> simp only [isT, Bool.false_eq_true] at t1
    cases e <;> simp only [isT, Bool.false_eq_true] at t2
    rename_i xs ys
    rw [ltB] at hk1
    generalize p.1 = pv at r1' ⊢
    generalize q.1 = qv at r2' ⊢
    cases r1' with
    | tuple h1 h2 h3 h4 =>
      cases r2' with
      | tuple m1 m2 m3 m4 =>
        refine kat_lt h1 h3 m1 m3 ?_
        refine kat_reads xs ys _ _ _ _ k 0 h4 m4 hk1 (by simpa [PyData.canLay0] using c1) (by simpa [PyData.canLay0] using c2) ?_ (by simp) (fun z x r y t ex ey => ?_) ⟨rfl, rfl⟩
        · have : PyData.depthAll xs + 1 ≤ 8 := by simpa [PyData.depth] using dp
          omega
        · subst ex ey
          have zb : b = true := by simpa using z
          obtain ⟨i1, i2⟩ := b1 zb
          simp only [fst1] at i1 i2
          cases x <;> simp only [isI, Bool.false_eq_true] at i1
          cases y <;> simp only [isI, Bool.false_eq_true] at i2
          exact ⟨_, _, rfl, rfl⟩
  have reads : ∀ p : PyData → Bool, (∀ d ∈ ds, p d = true) → ∀ v ∈ vs, ∃ d as, Reads h' v d as ∧ p d = true := fun p hp v hm => by
    obtain ⟨d, as, hd1, r1⟩ := hv v hm
    exact ⟨d, as, Reads.keeps ext r1, hp d hd1⟩
  rcases hkind with (hI | hT) | hN
  · obtain ⟨fs, k1, k2, k3⟩ := katTups_of isI (reads _ hI)
    refine ⟨_, fun Q E hq => kat_kind (T := .type "int") k1 (by omega) (fun f hf => ?_) (by rfl) hq, cmpT _ (fun d hd => ?_) fun _ => hI⟩
    · obtain ⟨x, as, r, hx⟩ := k3 f hf
      cases x <;> simp only [isI, Bool.false_eq_true] at hx
      cases r
      exact Looks.now
    · have := hI d hd
      cases d <;> simp only [fst1, Bool.false_eq_true] at this
      rfl
  · obtain ⟨fs, k1, k2, k3⟩ := katTups_of isT (reads _ hT)
    refine ⟨_, fun Q E hq => kat_kind (T := .type "tuple") k1 (by omega) (fun f hf => ?_) (by rfl) hq, cmpT _ (fun d hd => ?_) fun z => ?_⟩
    · obtain ⟨x, as, r, hx⟩ := k3 f hf
      cases x <;> simp only [isT, Bool.false_eq_true] at hx
      cases r with
      | tuple h1 h2 h3 h4 =>
        have := show Looks (model prog w) h' (typeOf (.ref _)) _ from (Looks.ld h1).andThen .now
        rw [h2] at this
        exact this
    · have := hT d hd
      cases d <;> simp only [fst1, Bool.false_eq_true] at this
      rfl
    · exact absurd z (by decide +kernel)
  · have hI : ∀ v ∈ vs, ∃ (i : Int) (t : Tok), v = .int i t := fun v hm => by
      obtain ⟨d, as, r, hx⟩ := reads _ hN v hm
      cases d <;> simp only [isI, Bool.false_eq_true] at hx
      cases r
      exact ⟨_, _, rfl⟩
    have hIs : IntsAre vs (vs.map iv) := ints_iv hI
    refine ⟨oneType', fun Q E hq => ?_, fun p q hm hm' => ?_⟩
    · match vs, hIs, h2 with
      | v1 :: v2 :: rest, hI, _ =>
        rw [keyKind_ints hI]
        exact wpAny_pure hq
      | [], _, h => exact absurd h (by decide)
      | [v], _, h => exact absurd h (by simp)
    · obtain ⟨d, as, hd1, r1⟩ := hv _ hm
      obtain ⟨e, bs, hd2, r2⟩ := hv _ hm'
      have t1 := hN d hd1
      have t2 := hN e hd2
      show wpAny (model prog w) A (keyLt' oneType' p.1 q.1) (fun r s' => s' = { s with heap := h' } ∧ r = ltK h0 p.1 q.1) (fun _ _ => False) { s with heap := h' }
      have e1 : ltK h0 p.1 q.1 = (cmp3 d e == .lt) := by
        unfold ltK
        rw [kOf_eq r1, kOf_eq r2]
      rw [e1]
      cases d <;> simp only [isI, Bool.false_eq_true] at t1
      cases e <;> simp only [isI, Bool.false_eq_true] at t2
      rename_i i j
      generalize p.1 = pv at r1 ⊢
      generalize q.1 = qv at r2 ⊢
      cases r1
      cases r2
      rw [keyLt'_oneType]
      refine oneLt_int ⟨rfl, ?_⟩
      exact cmp_of_ltB (.int i) (.int j) _ rfl rfl rfl
end
end DnSo
namespace Dn
open PySem PySem.Spec PyProof.Rows L2 DnSo
inductive Tri (K : Kx) (F : Hp) : List V → List Value → List D → Prop
  | nil : Tri K F [] [] []
  | cons {x : V} {u : Value} {d : D} {xs : List V} {us : List Value} {ds : List D} (h1 : RelV x u) (h2 : Rp K F x d) (h3 : Tri K F xs us ds) : Tri K F (x :: xs) (u :: us) (d :: ds)
theorem tri_of {K : Kx} {F : Hp} : ∀ {xs : List V} {us : List Value} {ds : List D}, RpAll K F xs ds → Vals xs us → Tri K F xs us ds
  | _, _, _, .nil, h => by cases h; exact .nil
  | _, _, _, .cons a b, h => by
    cases h with
    | cons c d => exact .cons c a (tri_of b d)
theorem Tri.vals {K : Kx} {F : Hp} {xs : List V} {us : List Value} {ds : List D} (t : Tri K F xs us ds) : Vals xs us := by
  induction t with
  | nil => exact .nil
  | cons a b c ih => exact .cons a ih
theorem Tri.all {K : Kx} {F : Hp} {xs : List V} {us : List Value} {ds : List D} (t : Tri K F xs us ds) : RpAll K F xs ds := by
  induction t with
  | nil => exact .nil
  | cons a b c ih => exact .cons b ih
theorem Tri.perm {K : Kx} {F : Hp} {us' us : List Value} (p : us.Perm us') : ∀ {xs : List V} {ds : List D}, Tri K F xs us ds → ∃ xs' ds', Tri K F xs' us' ds' ∧ ds'.Perm ds := by
  induction p with
  | nil => exact fun t => ⟨_, _, t, .refl _⟩
  | cons u p ih =>
    intro xs ds t
    cases t with
    | cons a b c =>
      obtain ⟨xs', ds', t', q⟩ := ih c
      exact ⟨_, _, .cons a b t', q.cons _⟩
  | swap u v l =>
    intro xs ds t
    cases t with
    | cons a b c =>
      cases c with
      | cons a' b' c' => exact ⟨_, _, .cons a' b' (.cons a b c'), .swap _ _ _⟩
  | trans p q ih1 ih2 =>
    intro xs ds t
    obtain ⟨xs', ds', t', q'⟩ := ih1 t
    obtain ⟨xs2, ds2, t2, q2⟩ := ih2 t'
    exact ⟨_, _, t2, q2.trans q'⟩
theorem Tri.mem {K : Kx} {F : Hp} {xs : List V} {us : List Value} {ds : List D} (t : Tri K F xs us ds) : ∀ u ∈ us, ∃ x d, d ∈ ds ∧ RelV x u ∧ Rp K F x d := by
  induction t with
  | nil => simp
  | cons a b c ih =>
    intro u hu
    rcases List.mem_cons.mp hu with e | e
    · subst e
      exact ⟨_, _, List.mem_cons_self, a, b⟩
    · obtain ⟨x, d, h1, h2⟩ := ih u e
      exact ⟨x, d, List.mem_cons_of_mem _ h1, h2⟩
theorem Tri.map {K : Kx} {F : Hp} {k : Value → D} {xs : List V} {us : List Value} {ds : List D} (t : Tri K F xs us ds) : (∀ x u d, d ∈ ds → RelV x u → Rp K F x d → k u = d) → us.map k = ds := by
  induction t with
  | nil => exact fun _ => rfl
  | cons a b c ih =>
    intro h
    rw [List.map_cons, h _ _ _ List.mem_cons_self a b, ih fun x u d hd => h x u d (List.mem_cons_of_mem _ hd)]
def sortF : List D → Option D
  | [.list xs] => if sortOk xs = true then some (.list (xs.mergeSort leD3)) else none
  | _ => none
section
variable {X : Cx}
theorem call_sortD (hu : X.A.units + 65 < cLine) : CallR X (.builtin "sorted") (rFn (cxK X) sortF) := by
  intro pins s σ H xs us Q I rx h
  obtain ⟨F, ds, r, sf, hd, ef, k⟩ := h
  unfold sortF at ef
  split at ef
  · rename_i es
    split at ef
    · rename_i ok
      cases ef
      obtain ⟨v, rfl, hv⟩ := da1 hd
      cases hv with
      | @lst a ws _ h1 d1 =>
        obtain ⟨its, rv, hl, hz⟩ := I.list (sf.seq h1)
        rw [Vals.ref1 rx]
        have T : Tri (cxK X) F ws its es := tri_of d1 rv
        have ok' := ok
        unfold sortOk at ok'
        simp only [Bool.and_eq_true, List.all_eq_true, decide_eq_true_eq] at ok'
        obtain ⟨⟨⟨hlen0, hdd⟩, _⟩, _⟩ := ok'
        have rd : ∀ x u d, d ∈ es → RelV x u → Rp (cxK X) F x d → ∃ as, Reads s.heap u d as := fun x u d hd hr hp => Dp.reads I d x u (rp_dp (dp_mono sf _ _ hp) (hdd d hd).1.2) hr
        refine SrtO.sorted_ord (swoK s.heap) hl.isList (by rw [← rv.length]; exact hz) (fun h2 h₁ a' ha' hk => ?_) fun out h1 h2 => ?_
        · refine sortableK (ds := es) (fun v hm => ?_) ok h2 hk (by show X.A.units + 1 + 1 + 20 < cLine; omega)
          obtain ⟨x, d, h3, h4, h5⟩ := T.mem v hm
          obtain ⟨as, h6⟩ := rd x v d h3 h4 h5
          exact ⟨d, as, h3, h6⟩
        · obtain ⟨xs', ds', T', pm⟩ := T.perm h2.perm.symm
          have ek : out.map (kOf s.heap) = ds' := T'.map fun x u d hd hr hp => by
            obtain ⟨as, h6⟩ := rd x u d (pm.mem_iff.mp hd) hr hp
            exact kOf_eq h6
          have es' : ds' = es.mergeSort leD3 := sort_one (fun d hd => (hdd d hd).1.1) pm (by
            rw [← ek]
            exact List.pairwise_map.mpr h1)
          obtain ⟨ep, he'⟩ := PyProof.Rows.sortedAll_at s.heap its out.toArray
          have hlen : xs'.length ≤ sizeLine := by
            rw [line_eq, da_len T'.all, pm.length_eq]
            exact hlen0
          have hp : H (s.heap.objs.size + 1) = none := I.hok.fresh (Nat.le_succ _)
          rw [← es'] at k
          exact ⟨.ref _, upd H (s.heap.objs.size + 1) (.lst xs'), I.laid (t' := s.toks) (fun _ _ => PyProof.Rows.sortedAll_old) (Nat.le_succ _) ⟨hlen, out, ep, T'.vals, he'⟩, rfl, k _ _ _ (Grow.own sf hp) (own_new sf hp T'.all) hp⟩
    · cases ef
  · cases ef
end
end Dn
set_option maxHeartbeats 2000000
/-! repr of data; the law's own body where nothing is being shown -/
namespace Dn
open PySem PySem.Spec PyProof.Rows L2
def reprOk (d : D) : Bool := d.canLay0 && decide (d.depth ≤ 8) && PyData.showable d && PyData.leavesShort 13 d && decide (d.weight ≤ 2 ^ 20)
def reprF : List D → Option D
  | [.list xs] => if reprOk (.list xs) = true then some (.str (PyData.list xs).shown) else none
  | [.tuple xs] => if reprOk (.tuple xs) = true then some (.str (PyData.tuple xs).shown) else none
  | _ => none
mutual
theorem noDict_of : ∀ d : D, d.canLay0 = true → d.hasDict = false
  | .none, _ => rfl
  | .bool _, _ => rfl
  | .int _, _ => rfl
  | .str _, _ => rfl
  | .list xs, h => by
    rw [PyData.hasDict]
    exact noDict_all xs (by simpa [PyData.canLay0] using h)
  | .tuple xs, h => by
    rw [PyData.hasDict]
    exact noDict_all xs (by simpa [PyData.canLay0] using h)
  | .dict _, h => by simp [PyData.canLay0] at h
theorem noDict_all : ∀ ds : List D, PyData.canLayAll0 ds = true → PyData.hasDictAll ds = false
  | [], _ => rfl
  | d :: ds, h => by
    have c : d.canLay0 = true ∧ PyData.canLayAll0 ds = true := by simpa [PyData.canLayAll0] using h
    rw [PyData.hasDictAll, noDict_of d c.1, noDict_all ds c.2]
    rfl
end
section
variable {X : Cx}
theorem repr_ref {pins : List (Addr × Obj)} {s : Shared} {σ : L2.St} {F H : Hp} {Q : VK} {d : D} {a : Addr} (hg : X.A.guards = some []) (hu : X.A.units + 65 < cLine) (I : Inv X pins σ H s) (sf : Same F H) (hp : Rp (cxK X) F (.ref a) d) (ok : reprOk d = true)
    (k : ∀ v F' H', Grow F H F' H' → Rp (cxK X) F' v (.str d.shown) → Q v H') : wpAny (model X.prog X.w) X.A (call (.builtin "repr") [.ref a]) (fun u s' => ∃ v H', Inv X pins σ H' s' ∧ RelV v u ∧ Q v H') X.xe s := by
  unfold reprOk at ok
  simp only [Bool.and_eq_true, decide_eq_true_eq] at ok
  obtain ⟨⟨⟨⟨c1, c2⟩, c3⟩, c4⟩, c5⟩ := ok
  obtain ⟨as, r⟩ := Dp.reads I d (.ref a) (.ref a) (rp_dp (dp_mono sf _ _ hp) c1) rfl
  refine repr_of_reads' r c3 (fun z => ?_) hg (by omega) (fun _ _ e => e) (fun h' u tk hk => ?_) (PyData.shown_fits (by decide) (by decide) c4 c5)
  · rw [noDict_of d c1] at z
    cases z
  · exact ⟨.str d.shown, H, I.kept (t' := tk) hk, ⟨_, rfl⟩, k _ F H (Grow.refl sf) (.str _)⟩
theorem call_reprD (hg : X.A.guards = some []) (hu : X.A.units + 65 < cLine) : CallR X (.builtin "repr") (rPn (cxK X) reprF) := by
  intro pins s σ H xs us Q I rx h
  obtain ⟨F, ds, r, sf, hd, ef, k⟩ := h
  unfold reprF at ef
  split at ef
  · split at ef
    · rename_i ok
      cases ef
      obtain ⟨v, rfl, hv⟩ := da1 hd
      have hv' := hv
      cases hv' with
      | lst h1 d1 =>
        rw [Vals.ref1 rx]
        exact repr_ref hg hu I sf hv ok k
    · cases ef
  · split at ef
    · rename_i ok
      cases ef
      obtain ⟨v, rfl, hv⟩ := da1 hd
      have hv' := hv
      cases hv' with
      | tup h1 d1 =>
        rw [Vals.ref1 rx]
        exact repr_ref hg hu I sf hv ok k
    · cases ef
  · cases ef
theorem bb_repr : bootBuiltins "repr" = some (.builtin "repr") := by decide +kernel
theorem bb_sorted : bootBuiltins "sorted" = some (.builtin "sorted") := by decide +kernel
theorem bb_sum : bootBuiltins "sum" = some (.builtin "sum") := by decide +kernel
end

/-! ### the law's own body, where nothing is being shown -/
section
variable {P : Program} {w : World} {K : PySem.W.Frag} {mg mb : Str → Option Value}
/-- the script as the layer sees it -/
theorem script_st {s₁ : Shared} {a : Addr} {vs : List Value} {ns : List Int} (KX : K.In s₁.heap) (ha : s₁.heap.get? a = some { cls := .type "list", data := .seq vs.toArray }) (hi : IntsAre vs ns) (hl : ns.length ≤ sizeLine) :
    ∃ H : Hp, Only H ∧ SqL K H a (ns.map V.int) ∧ HOk P w H s₁.heap ∧ (∀ b, H b ≠ none → b = a) ∧ (H a ≠ none → K.lookup a = none) := by
  have rv := vals_ints hi
  have lenV := hi.length
  by_cases hk : K.lookup a = none
  · have ev : ∀ {b : Addr} {u : HO}, (if b = a then some (HO.frz { cls := .type "list", data := .seq vs.toArray } (.lst (ns.map V.int))) else none) = some u → b = a ∧ u = .frz { cls := .type "list", data := .seq vs.toArray } (.lst (ns.map V.int)) := fun {b u} h => by
      by_cases z : b = a
      · rw [if_pos z] at h
        exact ⟨z, (Option.some.inj h).symm⟩
      · rw [if_neg z] at h
        cases h
    refine ⟨fun b => if b = a then some (.frz { cls := .type "list", data := .seq vs.toArray } (.lst (ns.map V.int))) else none, fun b => ?_, .inl (.inr ⟨_, if_pos rfl⟩), fun b u z => ?_, fun b z => ?_, fun _ => hk⟩
    · by_cases z : b = a
      · exact .inr ⟨_, _, if_pos z⟩
      · exact .inl (if_neg z)
    · obtain ⟨rfl, rfl⟩ := ev z
      exact ⟨ha, by rw [List.length_map]; exact hl, vs, _, rv, ha⟩
    · by_cases y : b = a
      · exact y
      · exact absurd (if_neg y) z
  · obtain ⟨o, hk⟩ := Option.ne_none_iff_exists'.mp hk
    have e := KX a o hk
    rw [ha] at e
    cases e
    exact ⟨fun _ => none, fun _ => .inl rfl, .inr ⟨_, vs.toArray, _, hk, rfl, rfl, rfl, by rw [List.size_toArray, lenV]; exact hl, by simpa using rv⟩, fun b u z => (by cases z), fun b z => absurd rfl z, fun z => absurd rfl z⟩
theorem law_body {k : Nat} {f a : Addr} {fd : FuncData} {st : Stmt} {N : List Str} {g : Sd} {s₁ : Shared} {vs : List Value} {ns : List Int}
    (Fn : Fun K "law" "law" st f fd) (S : FnScope N ["script"] (defScope st)) (KX : K.In s₁.heap) (hns : s₁.heap.Ns mainGlobals mg) (hb : s₁.heap.Ns builtinsNs mb) (hbb : ∀ x : Str, x ≠ "__name__" → mb x = bootBuiltins x) (hlim : s₁.heap.NoLimit) (hg : s₁.gens = #[])
    (ha : s₁.heap.get? a = some { cls := .type "list", data := .seq vs.toArray }) (hi : IntsAre vs ns) (hl : ns.length ≤ 63) (hr : Room (k + 1) callerA) (hbind : ∀ (s : Shared) (u : Value), BindsTo s fd ⟨[u], []⟩ [("script", u)])
    (body : ∀ (base : Heap) (cdv : Value) (s : Shared) (H : Hp) (E : XK), K.In base → base.Ns mainGlobals mg → DSs (cxOf CX0 P w K mg base N "law" (defScope st) f cdv callerA [] s H E).nox (defBody st) g)
    (ok : runV N.length g [.list (ns.map PyData.int)] = some (.bool true)) :
    codeAny (model P w) callerA (.call (.ref f) ⟨[.ref a], []⟩) (fun r s' => r = .ok (.ret (.bool true)) ∧ OldK s₁.heap s'.heap ∧ s'.os = s₁.os ∧ AllBare s'.gens) s₁ := by
  obtain ⟨H, hO, hS, hok, hA, hK⟩ := script_st (P := P) (w := w) KX ha hi (Nat.le_trans hl (by decide))
  have base_of : ∀ {b : Addr} {o : Obj}, s₁.heap.get? b = some o → H b = none → (hidT s₁.heap H).get? b = some o := fun e n => hidT_get e n
  have noA : ∀ {b : Addr} {o : Obj} {es : Array DictEntry} {ep : Nat}, s₁.heap.get? b = some o → o.data = .dict es ep → H b = none := fun {b o es ep} e d => by
    by_cases q : H b = none
    · exact q
    · have e' := hA b q
      subst e'
      rw [ha] at e
      cases e
      cases d
  have nsK : ∀ {b : Addr} {m : Str → Option Value}, s₁.heap.Ns b m → (hidT s₁.heap H).Ns b m := fun {b m} ⟨o, es, ep, e, d, r⟩ => ⟨o, es, ep, base_of e (noA e d), d, r⟩
  have hKb : K.In (hidT s₁.heap H) := fun b o e => base_of (KX b o e) (by
    by_cases q : H b = none
    · exact q
    · have e' := hA b q
      subst e'
      rw [hK q] at e
      cases e)
  have hM : Mod K mg (hidT s₁.heap H) := ⟨hKb, nsK hns, ⟨mb, nsK hb, hbb⟩, let ⟨mc, h1, h2⟩ := hlim; ⟨mc, nsK h1, h2⟩⟩
  have e0 : Env0 P w K mg (hidT s₁.heap H) callerA [] s₁ H := ⟨rfl, hM, fun b o e => of_hidT e, Nat.le_of_eq (hidT_size _ _), trivial, fun b hb => absurd (show b ∈ ([] : List Addr) from hb) (by simp), hok, .of_eq hg⟩
  obtain ⟨oc, od, kV, doc, pm, an, cdv, ct, osl, rfl, lk, hcd⟩ := Fn.ex
  have hkind : ∀ y ∈ ([("script" : Str)] : List Str).zip [Value.ref a], (defScope st).names.lookup y.1 = some .local ∨ ((defScope st).names.lookup y.1 = some .cell ∧ ((cellsFrom (s₁.heap.objs.size + 1) (defScope st).names []).lookup y.1).isSome = true) := fun ⟨n, v⟩ hy => by
    rcases S.par n (List.of_mem_zip hy).1 with q | q
    · exact .inl q
    · exact .inr ⟨q, PySem.W.cellsFrom_some _ _ _ (.inl q)⟩
  have hbody := body (hidT s₁.heap H) cdv s₁ H (fun _ _ _ => False) hKb (nsK hns)
  have q0 : tDS (Kx.mk K P w) g { nx := fun _ _ => False, rt := fun v _ => v = V.bl true } (L2.start N [.ref a]) H := by
    obtain ⟨⟨fl, ρ'⟩, e1, e2⟩ := bind_some ok
    refine ⟨H, envV N.length [.list (ns.map PyData.int)], fl, ρ', st_vals (Same.refl H) (.cons (.lst hS (da_ints ns)) .nil), e1, fun σ' F' H' p s' => ?_⟩
    cases fl with
    | nx => cases e2
    | ret d =>
      cases e2
      exact fun v rv => by
        cases rv
        rfl
    | rof d => cases e2
    | brk => cases e2
    | cnt => cases e2
  refine codeAny_mono (R := CR CX0 [] P w H s₁ (fun v _ => v = .bl true) fun _ _ _ => False) ?_ fun r s' h => ?_
  · refine codeAny_call_function hr.depth (KX _ _ lk) rfl S.co S.gen rfl (PySem.W.codeRec_of KX hcd) (hbind s₁ (.ref a) _ _ _ _ ?_)
    refine wpAny_newFunctionEnv_cells S.kind hkind fun env he s1 x => ?_
    subst he
    refine ⟨hlim.keeps x.toInCall.keep, codeAny_func ?_⟩
    have I := inv_start (CX := CX0) (E := fun _ _ _ => False) (us := [.ref a]) (vs := [.ref a]) S hr.hd e0 rfl (.cons rfl .nil) x
    refine wpAny_mono (hbody.nox.run [] s1 (L2.start N [.ref a]) H _ I q0) (fun fl s' hs => ?_) fun e s' hs => hs
    cases fl with
    | next =>
      obtain ⟨_, _, _, q⟩ := hs
      exact q.elim
    | brk =>
      obtain ⟨_, _, _, q⟩ := hs
      exact False.elim q
    | cont =>
      obtain ⟨_, _, _, q⟩ := hs
      exact False.elim q
    | ret u =>
      obtain ⟨v, σ', H', J, rv, q⟩ := hs
      exact ⟨v, H', J.os, J.bare, J.base, J.hok, rv, q⟩
  · cases r with
    | error e => exact (show False from h).elim
    | ok fl =>
      cases fl with
      | next => exact False.elim h
      | brk => exact False.elim h
      | cont => exact False.elim h
      | ret u =>
        obtain ⟨v, H', os, bare, un, hok', rv, q⟩ := h
        have q' : v = .bl true := q
        subst q'
        obtain rfl : u = Value.bool true := rv
        refine ⟨rfl, OldK.of_keep fun b o e => ?_, os, bare⟩
        by_cases z : H b = none
        · exact un.keep b o e z (by intro y; exact absurd (show b ∈ ([] : List Addr) from y) (by simp)) (by simp)
        · rcases hO b with y | ⟨ob, xs, y⟩
          · exact absurd y z
          · have z2 := un.frzs b ob _ y
            obtain ⟨e1, _⟩ := hok b _ y
            obtain ⟨e2, _⟩ := hok' b _ z2
            rw [e] at e1
            cases e1
            exact e2
/-- the last row: a law whose own body is read where nothing is being shown -/
theorem walk_body {l : PySem.W.OpenLaw} {k : Nat} {q : Program} {loose : List Str} {XP : (Str → Option Value) → Heap → Prop} {YP : World → Heap → Prop} {d : DefRec} {K : Params → PySem.W.Frag} {st : Stmt} {N : List Str} {g : Sd}
    (hn : l.most = some 63) (hdf : d.params.defaults = []) (hr : Room (k + 1) callerA) (hY : ∀ (w : World) (h : Heap), YP w h → (K w.params).In h) (S : FnScope N ["script"] (defScope st))
    (F : ∀ (w : World) (mg : Str → Option Value) (fa : Addr) (h : Heap), (K w.params).In h → h.Ns mainGlobals mg → mg d.name = some (.ref fa) → ∃ fd : FuncData, Fun (K w.params) "law" "law" st fa fd ∧ (∀ (s : Shared) (u : Value), BindsTo s fd ⟨[u], []⟩ [("script", u)]) ∧
      ∀ (base : Heap) (cdv : Value) (s : Shared) (H : Hp) (E : XK), (K w.params).In base → base.Ns mainGlobals mg → DSs (cxOf CX0 l.prog w (K w.params) mg base N "law" (defScope st) fa cdv callerA [] s H E).nox (defBody st) g)
    (ok : ∀ ns : List Int, ns.length ≤ 63 → runV N.length g [.list (ns.map PyData.int)] = some (.bool true)) : PySem.W.WalkO q loose XP YP l.row.toRowW d [] (fun f vs => PySem.call f vs) := by
  refine Att.attach_call hn hdf fun w s₀ s₁ mg mb fa o pm cd doc a vs ns G Y ho hd hcd hmg hobj hints hlen hg => ?_
  have KX := hY w _ Y
  obtain ⟨fd, hF, hb, hB⟩ := F w mg fa _ KX G.T.g hmg
  exact law_body hF S KX G.T.g G.T.b G.T.builtins G.T.nolimit hg hobj hints hlen hr hb hB (ok ns hlen)
end
end Dn
set_option maxHeartbeats 2000000
/-! comparisons with a list of one's own, reversed, sums -/
namespace Dn
open PySem PySem.Spec PyProof.Rows L2 RT
section
variable {X : Cx} {tg e a b : Expr} {pos p py : Pos} {x y : Str}
/-- an operation on a list of one's own and a datum: what comes of it is no reference -/
def gOpBL (f : D → D → Option D) (i : Nat) (g : Md D) : Md D := fun ρ => (peek ρ i).bind fun _ => (g ρ).bind fun p => (peek p.2 i).bind fun d => (f d p.1).bind fun r => if flatD r = true then some (r, p.2) else none
theorem opBL_q {f : D → D → Option D} {i : Nat} {g : Md D} {σ : L2.St} {H : Hp} {Q : VK} (q : tD (cxK X) (gOpBL f i g) σ H Q) : tOp (rP2 (cxK X) f) (tVar i) (tD (cxK X) g) σ H Q := by
  obtain ⟨F, ρ, r, ρ', s, eg, k⟩ := q
  obtain ⟨d0, e0, eg⟩ := bind_some eg
  obtain ⟨⟨c, ρ1⟩, e1, eg⟩ := bind_some eg
  obtain ⟨d, e2, eg⟩ := bind_some eg
  obtain ⟨r', e3, eg⟩ := bind_some eg
  simp only at e2 e3 eg
  split at eg
  · rename_i fl
    cases eg
    obtain ⟨v, ev, _⟩ := peek_dp s e0
    refine ⟨v, ev, F, ρ, c, _, s, e1, fun w F1 H1 p1 s1 r1 => ?_⟩
    obtain ⟨v', ev', rv⟩ := peek_dp s1 e2
    rw [ev] at ev'
    cases ev'
    refine ⟨H1, d, c, r, Same.refl _, rv, dp_mono s1.sub _ _ r1, e3, fun u F2 H2 gr r2 => ?_⟩
    have gr' : Grow F1 H1 F1 H2 := ⟨Same.refl _, gr.hh, s1.sub.trans gr.hh, fun _ _ _ => rfl⟩
    exact k u F1 H2 (p1.trans (gr'.stp _ _)) (s1.grow gr') (flat_dp r2 fl)
  · cases eg
theorem db_cmpL {op : CmpOp} {f : D → D → Option D} (i : Nat) {g : Md D} (ho : OpR X (compareOp op) (rP2 (cxK X) f)) (hb : DE X b g) (hm : behindInMarks op b = false) (hN : X.N[i]? = some y := by rfl) (hy : Vis X.env.scope y := by first | exact Or.inl rfl | exact Or.inr (Or.inl rfl) | exact Or.inr (Or.inr rfl))
    (hdy : (y == ("__debug__" : Str)) = false := by decide) (hcd : (y == ("__classdict__" : Str)) = false := by decide) : DE X (.Compare (.Name y py) [op] [b] pos) (gOpBL f i g) :=
  pe_imp (pe_cmpR ho (pe_var hN hy hdy hcd) hb hm) fun _ _ _ q => opBL_q q
theorem dbt_cmpL {op : CmpOp} {f : D → D → Option D} (i : Nat) {g : Md D} (ho : OpR X (compareOp op) (rP2 (cxK X) f)) (hb : DE X b g) (hm : behindInMarks op b = false) (hN : X.N[i]? = some y := by rfl) (hy : Vis X.env.scope y := by first | exact Or.inl rfl | exact Or.inr (Or.inl rfl) | exact Or.inr (Or.inr rfl))
    (hdy : (y == ("__debug__" : Str)) = false := by decide) (hcd : (y == ("__classdict__" : Str)) = false := by decide) : DT X (.Compare (.Name y py) [op] [b] pos) (gTst (gOpBL f i g)) :=
  pt_imp (pt_cmpR ho (pe_var hN hy hdy hcd) hb hm) fun σ H Q q => opBL_q (tst_q q)

theorem dbt_in (i : Nat) {g : Md D} (hu : X.A.units + 65 < cLine) (ha : DE X a g) (hN : X.N[i]? = some y := by rfl) (hy : Vis X.env.scope y := by first | exact Or.inl rfl | exact Or.inr (Or.inl rfl) | exact Or.inr (Or.inr rfl)) (hdy : (y == ("__debug__" : Str)) = false := by decide) (hcd : (y == ("__classdict__" : Str)) = false := by decide) (hm : behindInMarks .In (.Name y py) = false := by rfl) : DT X (.Compare a [.In] [.Name y py] pos) (gTst (gInB false i g)) :=
  pt_imp (pt_cmpR ((op_inD hu).or op_in_seq) ha (pe_var hN hy hdy hcd) hm) fun σ H Q q => by
    have q := tst_q q
    obtain ⟨F, ρ, d, ρ', s, eg, k⟩ := q
    obtain ⟨⟨d1, ρ1⟩, e1, eg1⟩ := bind_some eg
    obtain ⟨e, e2, eg2⟩ := bind_some eg1
    obtain ⟨b, e3, eg3⟩ := bind_some eg2
    cases eg3
    refine ⟨F, ρ, d1, _, s, e1, fun v F1 H1 p1 s1 r1 => ?_⟩
    obtain ⟨w, ew, rw'⟩ := peek_dp s1 e2
    exact ⟨w, ew, in_any hu (dp_mono s1.sub _ _ r1) rw' e3 (k _ F1 H1 p1 s1 (.bl _))⟩
theorem dbt_nin (i : Nat) {g : Md D} (hu : X.A.units + 65 < cLine) (ha : DE X a g) (hN : X.N[i]? = some y := by rfl) (hy : Vis X.env.scope y := by first | exact Or.inl rfl | exact Or.inr (Or.inl rfl) | exact Or.inr (Or.inr rfl)) (hdy : (y == ("__debug__" : Str)) = false := by decide) (hcd : (y == ("__classdict__" : Str)) = false := by decide) (hm : behindInMarks .NotIn (.Name y py) = false := by rfl) : DT X (.Compare a [.NotIn] [.Name y py] pos) (gTst (gInB true i g)) :=
  pt_imp (pt_cmpR ((op_notInD hu).or op_notIn_seq) ha (pe_var hN hy hdy hcd) hm) fun σ H Q q => by
    have q := tst_q q
    obtain ⟨F, ρ, d, ρ', s, eg, k⟩ := q
    obtain ⟨⟨d1, ρ1⟩, e1, eg1⟩ := bind_some eg
    obtain ⟨e, e2, eg2⟩ := bind_some eg1
    obtain ⟨b, e3, eg3⟩ := bind_some eg2
    cases eg3
    refine ⟨F, ρ, d1, _, s, e1, fun v F1 H1 p1 s1 r1 => ?_⟩
    obtain ⟨w, ew, rw'⟩ := peek_dp s1 e2
    exact ⟨w, ew, nin_any hu (dp_mono s1.sub _ _ r1) rw' e3 (k _ F1 H1 p1 s1 (.bl _))⟩

/-! reversed -/
def revOf (d : D) : Option (List D) := match d with
  | .list xs => some xs.reverse
  | .tuple xs => some xs.reverse
  | _ => none
def gReve (g : Md D) : Md (List D) := fun ρ => (g ρ).bind fun p => (revOf p.1).bind fun ds => some (ds, p.2)
theorem rev_get {α : Type} {l : List α} {i : Nat} (h : i < l.length) : l.reverse[i]? = l[l.length - 1 - i]? := List.getElem?_reverse h
theorem it_rev {K : Kx} {F : Hp} {a : Addr} {vs : List V} {ds : List D} (h : SqL K F a vs) (r : RpAll K F vs ds) : ItOk K F (Itv K a vs.length) ds.reverse := fun F1 H s1 s2 i => by
  have hH := (s1.trans s2).seq h
  have hl := da_len r
  refine ⟨fun d e => ?_, fun hl' => by rw [List.length_reverse] at hl'; exact (by rw [hl]; exact hl' : vs.length ≤ i)⟩
  have hi : i < ds.length := by
    have := (List.getElem?_eq_some_iff.mp e).1
    rw [List.length_reverse] at this
    exact this
  rw [rev_get hi] at e
  obtain ⟨v, e1, rv⟩ := da_at r e
  rw [← hl] at e1
  refine ⟨⟨by rw [hl]; exact hi, vs, v, hH, e1⟩, fun y H' hy => ?_⟩
  obtain ⟨rfl, hy⟩ := hy
  have e2 := (hy vs hH).symm.trans e1
  cases e2
  exact ⟨F1, Grow.refl s2, dp_mono s1 _ _ rv⟩
theorem it_revT {K : Kx} {F : Hp} {a : Addr} {vs : List V} {ds : List D} (h : SqT K F a vs) (r : RpAll K F vs ds) : ItOk K F (ItvT K a vs.length) ds.reverse := fun F1 H s1 s2 i => by
  have hH := seqT_same (s1.trans s2) h
  have hl := da_len r
  refine ⟨fun d e => ?_, fun hl' => by rw [List.length_reverse] at hl'; exact (by rw [hl]; exact hl' : vs.length ≤ i)⟩
  have hi : i < ds.length := by
    have := (List.getElem?_eq_some_iff.mp e).1
    rw [List.length_reverse] at this
    exact this
  rw [rev_get hi] at e
  obtain ⟨v, e1, rv⟩ := da_at r e
  rw [← hl] at e1
  refine ⟨⟨by rw [hl]; exact hi, vs, v, hH, e1⟩, fun y H' hy => ?_⟩
  obtain ⟨rfl, hy⟩ := hy
  have e2 := (hy vs hH).symm.trans e1
  cases e2
  exact ⟨F1, Grow.refl s2, dp_mono s1 _ _ rv⟩
theorem di_reve {g : Md D} (hg : Gl X "reversed") (hm : X.mg "reversed" = none) (he : DE X e g) (hs : starEach [e] X.env = (false, eval e X.env) :: starEach [] X.env := by rfl) : DI X tg (.Call (.Name "reversed" p) [e] [] pos) (gReve g) :=
  pi_imp (pi_revA hg hm he hs) fun σ H R q => by
    obtain ⟨F, ρ, ds, ρ', s, eg, k⟩ := q
    obtain ⟨⟨d, ρ1⟩, e1, eg1⟩ := bind_some eg
    obtain ⟨z, e2, eg2⟩ := bind_some eg1
    cases eg2
    refine ⟨F, ρ, d, _, s, e1, fun v F1 H1 p1 s1 r1 => ?_⟩
    simp only at e2
    cases d with
    | list xs =>
      cases e2
      cases r1 with
      | @lst a vs _ h1 d1 => exact ⟨a, vs, rfl, .inl ⟨s1.sub.seq h1, k _ F1 H1 p1 s1 (it_rev h1 d1)⟩⟩
    | tuple xs =>
      cases e2
      cases r1 with
      | @tup a vs _ h1 d1 => exact ⟨a, vs, rfl, .inr ⟨seqT_same s1.sub h1, k _ F1 H1 p1 s1 (it_revT h1 d1)⟩⟩
    | none => cases e2
    | bool _ => cases e2
    | int _ => cases e2
    | str _ => cases e2
    | dict _ => cases e2

/-! sums, the greatest, the least of a list of whole numbers -/
def numsOf : List D → Option (List Int)
  | [] => some []
  | .int i :: r => (numsOf r).bind fun ns => some (i :: ns)
  | _ => none
theorem numsOf_map : ∀ {ds : List D} {ns : List Int}, numsOf ds = some ns → ds = ns.map PyData.int
  | [], _, h => by cases h; rfl
  | .int i :: r, _, h => by
    obtain ⟨ns, e1, e2⟩ := bind_some h
    cases e2
    rw [numsOf_map e1]
    rfl
  | .none :: _, _, h => by cases h
  | .bool _ :: _, _, h => by cases h
  | .str _ :: _, _, h => by cases h
  | .list _ :: _, _, h => by cases h
  | .tuple _ :: _, _, h => by cases h
  | .dict _ :: _, _, h => by cases h
theorem nums_map : ∀ ns : List Int, numsOf (ns.map PyData.int) = some ns
  | [] => rfl
  | n :: ns => by
    show (numsOf (ns.map PyData.int)).bind (fun r => some (n :: r)) = _
    rw [nums_map ns]
    rfl
def mostI : List Int → Option Int
  | [] => none
  | n :: ns => some (ns.foldl (fun m x => if x > m then x else m) n)
def leastI : List Int → Option Int
  | [] => none
  | n :: ns => some (ns.foldl (fun m x => if x < m then x else m) n)
def sumF : List D → Option D
  | [.list xs] => (numsOf xs).bind fun ns => some (.int ns.sum)
  | _ => none
def max1F : List D → Option D
  | [.list xs] => (numsOf xs).bind fun ns => (mostI ns).bind fun m => some (.int m)
  | _ => none
def min1F : List D → Option D
  | [.list xs] => (numsOf xs).bind fun ns => (leastI ns).bind fun m => some (.int m)
  | _ => none
theorem fold_max : ∀ (ns : List Int) (n : Int), (ns.foldl (fun m x => if x > m then x else m) n ∈ n :: ns) ∧ ∀ y ∈ n :: ns, y ≤ ns.foldl (fun m x => if x > m then x else m) n
  | [], n => ⟨by simp, by simp⟩
  | x :: ns, n => by
    rw [List.foldl_cons]
    obtain ⟨h1, h2⟩ := fold_max ns (if x > n then x else n)
    refine ⟨?_, fun y hy => ?_⟩
    · rcases List.mem_cons.mp h1 with e | e
      · rw [e]
        by_cases z : x > n
        · rw [if_pos z]; simp
        · rw [if_neg z]; simp
      · simp [e]
    · have h3 := h2 _ List.mem_cons_self
      rcases List.mem_cons.mp hy with e | e
      · subst e
        refine Int.le_trans ?_ h3
        split <;> omega
      · rcases List.mem_cons.mp e with e | e
        · subst e
          refine Int.le_trans ?_ h3
          split <;> omega
        · exact h2 y (List.mem_cons_of_mem _ e)
theorem fold_min : ∀ (ns : List Int) (n : Int), (ns.foldl (fun m x => if x < m then x else m) n ∈ n :: ns) ∧ ∀ y ∈ n :: ns, ns.foldl (fun m x => if x < m then x else m) n ≤ y
  | [], n => ⟨by simp, by simp⟩
  | x :: ns, n => by
    rw [List.foldl_cons]
    obtain ⟨h1, h2⟩ := fold_min ns (if x < n then x else n)
    refine ⟨?_, fun y hy => ?_⟩
    · rcases List.mem_cons.mp h1 with e | e
      · rw [e]
        by_cases z : x < n
        · rw [if_pos z]; simp
        · rw [if_neg z]; simp
      · simp [e]
    · have h3 := h2 _ List.mem_cons_self
      rcases List.mem_cons.mp hy with e | e
      · subst e
        refine Int.le_trans h3 ?_
        split <;> omega
      · rcases List.mem_cons.mp e with e | e
        · subst e
          refine Int.le_trans h3 ?_
          split <;> omega
        · exact h2 y (List.mem_cons_of_mem _ e)
theorem call_sumD (hc : X.calm = true) : CallR X (.builtin "sum") (rPn (cxK X) sumF) := by
  intro pins s σ H xs us Q I rx h
  obtain ⟨F, ds, r, sf, hd, ef, k⟩ := h
  unfold sumF at ef
  split at ef
  · obtain ⟨ns, e1, e2⟩ := bind_some ef
    cases e2
    obtain ⟨v, rfl, hv⟩ := da1 hd
    cases hv with
    | @lst a ws _ h1 d1 =>
      rw [numsOf_map e1] at d1
      have e3 := da_of_ints ns d1
      subst e3
      exact cr_sum hc pins s σ H _ us Q I rx ⟨a, ns, rfl, sf.seq h1, k _ F H (Grow.refl sf) (.int _)⟩
  · cases ef
theorem call_max1 (hc : X.calm = true) : CallR X (.builtin "max") (rPn (cxK X) max1F) := by
  intro pins s σ H xs us Q I rx h
  obtain ⟨F, ds, r, sf, hd, ef, k⟩ := h
  unfold max1F at ef
  split at ef
  · obtain ⟨ns, e1, e2⟩ := bind_some ef
    obtain ⟨m, e4, e5⟩ := bind_some e2
    cases e5
    obtain ⟨v, rfl, hv⟩ := da1 hd
    cases hv with
    | @lst a ws _ h1 d1 =>
      rw [numsOf_map e1] at d1
      have e3 := da_of_ints ns d1
      subst e3
      cases ns with
      | nil => cases e4
      | cons n ns =>
        cases e4
        obtain ⟨f1, f2⟩ := fold_max ns n
        refine cr_max hc pins s σ H _ us Q I rx ⟨a, n :: ns, rfl, sf.seq h1, by simp, fun m h3 h4 => ?_⟩
        have e6 : m = ns.foldl (fun m x => if x > m then x else m) n := Int.le_antisymm (f2 m h3) (h4 _ f1)
        rw [e6]
        exact k _ F H (Grow.refl sf) (.int _)
  · cases ef
theorem call_min1 (hc : X.calm = true) : CallR X (.builtin "min") (rPn (cxK X) min1F) := by
  intro pins s σ H xs us Q I rx h
  obtain ⟨F, ds, r, sf, hd, ef, k⟩ := h
  unfold min1F at ef
  split at ef
  · obtain ⟨ns, e1, e2⟩ := bind_some ef
    obtain ⟨m, e4, e5⟩ := bind_some e2
    cases e5
    obtain ⟨v, rfl, hv⟩ := da1 hd
    cases hv with
    | @lst a ws _ h1 d1 =>
      rw [numsOf_map e1] at d1
      have e3 := da_of_ints ns d1
      subst e3
      cases ns with
      | nil => cases e4
      | cons n ns =>
        cases e4
        obtain ⟨f1, f2⟩ := fold_min ns n
        refine cr_min hc pins s σ H _ us Q I rx ⟨a, n :: ns, rfl, sf.seq h1, by simp, fun m h3 h4 => ?_⟩
        have e6 : m = ns.foldl (fun m x => if x < m then x else m) n := Int.le_antisymm (h4 _ f1) (f2 m h3)
        rw [e6]
        exact k _ F H (Grow.refl sf) (.int _)
  · cases ef
end
end Dn
set_option maxHeartbeats 2000000
/-! dicts of one's own whose keys are tuples -/
namespace Dn
open PySem PySem.Spec PyProof.Rows L2
mutual
theorem nis {h : Heap} : ∀ (d : D) (k : NestedKey) (v : Value) (as : List Addr), nkOf d = some k → Reads h v d as → NestedIs h k v
  | .none, k, v, as, e, r => by
    cases e
    cases r
    exact .none
  | .int i, k, v, as, e, r => by
    cases e
    cases r
    exact .int _ _
  | .str x, k, v, as, e, r => by
    cases e
    cases r
    exact .text _ _
  | .tuple xs, k, v, as, e, r => by
    obtain ⟨ks, e1, e2⟩ := bind_some (show (nkAll xs).bind (fun ks => some (NestedKey.tup ks)) = some k from e)
    cases e2
    cases r with
    | tuple h1 h2 h3 h4 => exact .tup h1 h2 h3 (nisA xs ks _ _ e1 h4)
  | .bool _, _, _, _, e, _ => by cases e
  | .list _, _, _, _, e, _ => by cases e
  | .dict _, _, _, _, e, _ => by cases e
theorem nisA {h : Heap} : ∀ (ds : List D) (ks : List NestedKey) (vs : List Value) (as : List Addr), nkAll ds = some ks → ReadsAll h vs ds as → NestedAll h ks vs
  | [], ks, vs, as, e, r => by
    cases e
    cases r
    exact .nil
  | d :: ds, ks, vs, as, e, r => by
    obtain ⟨k, e1, e⟩ := bind_some (show (nkOf d).bind (fun k => (nkAll ds).bind fun ks => some (k :: ks)) = some ks from e)
    obtain ⟨ks', e2, e⟩ := bind_some e
    cases e
    cases r with
    | cons r1 r2 => exact .cons (nis d k _ _ e1 r1) (nisA ds ks' _ _ e2 r2)
end
abbrev PR : NestedKey × Addr × V → NestedKey × Addr × Value → Prop := fun p q => p.1 = q.1 ∧ p.2.1 = q.2.1 ∧ RelV p.2.2 q.2.2
theorem nkD_some {d : D} {k : NestedKey} (h : nkD d = some k) : nkOf d = some k ∧ k.depth ≤ 8 ∧ d.canLay0 = true := by
  obtain ⟨k', e1, e2⟩ := bind_some h
  split at e2
  · rename_i hc
    cases e2
    exact ⟨e1, hc.1, hc.2⟩
  · cases e2
theorem rpN_keys {K : Kx} {F : Hp} : ∀ {es : List (D × D)} {xs : List (NestedKey × Addr × V)} {ys : List (NestedKey × Addr × Value)}, RpN K F xs es → Paired PR xs ys → ∀ y ∈ ys, ∃ dk, nkD dk = some y.1 ∧ Rp K F (.ref y.2.1) dk
  | [], _, ys, r, p, y, hy => by
    cases r
    cases p
    cases hy
  | (dk, dv) :: es, _, ys, r, p, y, hy => by
    cases r with
    | cons hk h1 h2 h3 =>
      cases p with
      | cons a b =>
        rcases List.mem_cons.mp hy with e | e
        · subst e
          obtain ⟨a1, a2, a3⟩ := a
          simp only at a1 a2
          rw [← a1, ← a2]
          exact ⟨dk, hk, h1⟩
        · exact rpN_keys h3 b y e
section
variable {X : Cx} {pos : Pos}
/-- the dict at the heap -/
theorem dict_at {pins : List (Addr × Obj)} {s : Shared} {σ : L2.St} {F H : Hp} {a : Addr} {xs : List (NestedKey × Addr × V)} {es : List (D × D)} (I : Inv X pins σ H s) (sf : Same F H) (hH : H a = some (dicO (cxK X) a xs)) (r : RpN (cxK X) F xs es) :
    (a == sysModules) = false ∧ ∃ ys, Paired PR xs ys ∧ s.heap.DictOfH (nestedKind X.prog X.w) a ys := by
  obtain ⟨⟨hm, ys, p, o, es', ep, e1, e2, e3, e4, e5⟩, _, _⟩ := I.hok a _ hH
  refine ⟨hm, ys, p, o, es', ep, e1, e2, e3, e4, fun y hy => ?_, e5⟩
  obtain ⟨dk, h1, h2⟩ := rpN_keys r p y hy
  obtain ⟨n1, n2, n3⟩ := nkD_some h1
  obtain ⟨as, rd⟩ := Dp.reads I dk (.ref y.2.1) (.ref y.2.1) (rp_dp (dp_mono sf _ _ h2) n3) rfl
  exact ⟨nis dk _ _ _ n1 rd, n2⟩
/-- .. and back: what the object at a must be -/
theorem dicO_ok {P : Program} {w : World} {K : PySem.W.Frag} {H : Hp} {h : Heap} {a : Addr} {xs : List (NestedKey × Addr × V)} {ys : List (NestedKey × Addr × Value)} (hm : (a == sysModules) = false) (p : Paired PR xs ys) (d : h.DictOfH (nestedKind P w) a ys) : ObjOk P w H h a (dicO ⟨K, P, w⟩ a xs) := by
  obtain ⟨o, es', ep, e1, e2, e3, e4, _, e5⟩ := d
  refine ⟨⟨hm, ys, p, o, es', ep, e1, e2, e3, e4, e5⟩, ⟨o, e1⟩, fun h1 h2 q k => ?_⟩
  obtain ⟨hm', ys', p', o', es2, ep', f1, f2⟩ := q
  exact ⟨hm', ys', p', o', es2, ep', k _ f1, f2⟩
/-- {} -/
def gNewD : Md D := fun ρ => some (.dict [], ρ)
theorem df_new : DF X (.Dict [] [] pos) gNewD := ⟨fun pins s σ H Q I h => by
  obtain ⟨F, ρ, d, ρ', st, eg, k⟩ := h
  cases eg
  have hp : H s.heap.objs.size = none := I.hok.fresh (Nat.le_refl _)
  have hb : (s.heap.objs.size == sysModules) = false := beq_eq_false_iff_ne.mpr (Ne.symm (Nat.ne_of_lt I.big))
  have new : ObjOk X.prog X.w (upd H s.heap.objs.size (dicO (cxK X) s.heap.objs.size [])) (s.heap.push { cls := .type "dict", data := .dict #[] }) s.heap.objs.size (dicO (cxK X) s.heap.objs.size []) :=
    dicO_ok hb .nil ⟨_, #[], 0, Heap.get?_push_size _ rfl, ⟨rfl, rfl, rfl⟩, rfl, rfl, by simp, List.nodup_nil⟩
  have gr : Grow F H F (upd H s.heap.objs.size (dicO (cxK X) s.heap.objs.size [])) := Grow.own st.sub hp
  refine wpAny_Dict_empty ⟨.ref s.heap.objs.size, _, I.laid (a := s.heap.objs.size) (t' := s.toks) (fun _ _ q => Heap.get?_push_of_some _ q) (Nat.le_refl _) new, rfl, ?_⟩
  exact k _ _ _ (gr.stp σ ρ) (st.grow gr) ⟨none_sub st.sub hp, .inr ⟨[], [], rfl, upd_same, .nil⟩⟩ (not_owns st hp) hp⟩
/-- d[k] = v -/
def putN (xs : List (NestedKey × Addr × V)) (k : NestedKey) (ka : Addr) (v : V) : List (NestedKey × Addr × V) := if xs.any (fun x => decide (x.1 = k)) = true then xs.map (fun x => if x.1 = k then (x.1, x.2.1, v) else x) else xs ++ [(k, ka, v)]
theorem atKey_any {k : NestedKey} : ∀ {xs : List (NestedKey × Addr × V)} {ys : List (NestedKey × Addr × Value)}, Paired PR xs ys → (atKey ys k).isSome = xs.any fun x => decide (x.1 = k)
  | _, _, .nil => rfl
  | _, _, .cons (a := x) (b := y) r t => by
    have ih := atKey_any (k := k) t
    unfold atKey at ih ⊢
    rw [List.any_cons, ← ih, List.find?_cons, r.1]
    by_cases h : y.1 = k
    · simp [h]
    · simp [h]
theorem putN_map {k : NestedKey} {v : V} {u : Value} (r : RelV v u) : ∀ {xs : List (NestedKey × Addr × V)} {ys : List (NestedKey × Addr × Value)}, Paired PR xs ys → Paired PR (xs.map fun x => if x.1 = k then (x.1, x.2.1, v) else x) (ys.map (putAt k u))
  | _, _, .nil => .nil
  | _, _, .cons (a := x) (b := y) h t => by
    refine .cons ?_ (putN_map r t)
    obtain ⟨h1, h2, h3⟩ := h
    unfold putAt
    show PR (if x.1 = k then (x.1, x.2.1, v) else x) _
    by_cases z : x.1 = k
    · rw [if_pos z, if_pos (h1 ▸ z)]
      exact ⟨h1, h2, r⟩
    · rw [if_neg z, if_neg (fun q => z (h1.trans q))]
      exact ⟨h1, h2, h3⟩
theorem putN_pair {xs : List (NestedKey × Addr × V)} {ys : List (NestedKey × Addr × Value)} {k : NestedKey} {ka : Addr} {v : V} {u : Value} (p : Paired PR xs ys) (r : RelV v u) : Paired PR (putN xs k ka v) (storedH ys k ka u) := by
  unfold putN storedH
  rw [← atKey_any p]
  split
  · exact putN_map r p
  · exact p.snoc ⟨rfl, rfl, r⟩
def rSetN (X : Cx) : V → V → V → Hp → (Hp → Prop) → Prop := fun o i v H Q => ∃ (a : Addr) (xs : List (NestedKey × Addr × V)) (k : NestedKey) (ka : Addr) (F : Hp) (es : List (D × D)) (dk : D), o = .ref a ∧ i = .ref ka ∧ H a = some (dicO (cxK X) a xs) ∧ Same F H ∧ RpN (cxK X) F xs es ∧ nkD dk = some k ∧ Rp (cxK X) F (.ref ka) dk ∧ xs.length < 16777216 ∧ Q (upd H a (dicO (cxK X) a (putN xs k ka v)))
theorem set_dicN (hu : X.A.units + 65 < cLine) : PSet X (rSetN X) := by
  intro pins s σ H o i v ov iv u Q I ro ri rv h
  obtain ⟨a, xs, k, ka, F, es, dk, rfl, rfl, hH, sf, rn, hk, rk, hl, q⟩ := h
  cases ro
  cases ri
  obtain ⟨hm, ys, p, dH⟩ := dict_at I sf hH rn
  obtain ⟨n1, n2, n3⟩ := nkD_some hk
  obtain ⟨as, rd⟩ := Dp.reads I dk (.ref ka) (.ref ka) (rp_dp (dp_mono sf _ _ rk) n3) rfl
  have hyl : ys.length ≤ sizeLine := by
    rw [← Paired.length p, line_eq]
    omega
  refine wpAny_setItem_heap (hsz := hyl) (knd := nestedKind X.prog X.w) (show X.A.units + 1 + 8 < cLine by omega) ⟨nis dk _ _ _ n1 rd, n2⟩ dH fun h' dd' hs => ?_
  have hq : ∃ o, h'.get? a = some o := let ⟨o, _, _, e, _⟩ := dd'; ⟨o, e⟩
  refine ⟨_, I.write (x := a) (e := a) (by rw [hH]; exact True.intro) (.inl rfl) (fun b ob nb e => (hs.2 b nb).trans e) hq (dicO_ok hm (putN_pair p rv) dd'), q⟩
def putD (es : List (D × D)) (dk dv : D) : List (D × D) := if es.any (fun p => decide (nkD p.1 = nkD dk)) = true then es.map (fun p => if nkD p.1 = nkD dk then (p.1, dv) else p) else es ++ [(dk, dv)]
theorem rpN_any {K : Kx} {F : Hp} {k : NestedKey} : ∀ {es : List (D × D)} {xs : List (NestedKey × Addr × V)}, RpN K F xs es → (xs.any fun x => decide (x.1 = k)) = es.any fun p => decide (nkD p.1 = some k)
  | [], _, r => by cases r; rfl
  | (dk, dv) :: es, _, r => by
    cases r with
    | cons hk h1 h2 h3 =>
      rw [List.any_cons, List.any_cons, rpN_any h3, hk]
      simp
theorem rpN_map {K : Kx} {F : Hp} {k : NestedKey} {v : V} {d : D} (rv : Rp K F v d) : ∀ {es : List (D × D)} {xs : List (NestedKey × Addr × V)}, RpN K F xs es → RpN K F (xs.map fun x => if x.1 = k then (x.1, x.2.1, v) else x) (es.map fun p => if nkD p.1 = some k then (p.1, d) else p)
  | [], _, r => by cases r; exact .nil
  | (dk, dv) :: es, _, r => by
    cases r with
    | @cons k' ka x _ _ xs' _ hk h1 h2 h3 =>
      have ih := rpN_map (k := k) rv h3
      rw [List.map_cons, List.map_cons]
      by_cases z : k' = k
      · have e1 : (if ((k', ka, x) : NestedKey × Addr × V).1 = k then (k', ka, v) else (k', ka, x)) = (k', ka, v) := if_pos z
        have e2 : (if nkD ((dk, dv) : D × D).1 = some k then (dk, d) else (dk, dv)) = (dk, d) := if_pos (by rw [hk, z])
        show RpN K F ((if ((k', ka, x) : NestedKey × Addr × V).1 = k then (k', ka, v) else (k', ka, x)) :: _) ((if nkD ((dk, dv) : D × D).1 = some k then (dk, d) else (dk, dv)) :: _)
        rw [e1, e2]
        exact .cons hk h1 rv ih
      · have e1 : (if ((k', ka, x) : NestedKey × Addr × V).1 = k then (k', ka, v) else (k', ka, x)) = (k', ka, x) := if_neg z
        have e2 : (if nkD ((dk, dv) : D × D).1 = some k then (dk, d) else (dk, dv)) = (dk, dv) := if_neg (by rw [hk]; exact fun q => z (Option.some.inj q))
        show RpN K F ((if ((k', ka, x) : NestedKey × Addr × V).1 = k then (k', ka, v) else (k', ka, x)) :: _) ((if nkD ((dk, dv) : D × D).1 = some k then (dk, d) else (dk, dv)) :: _)
        rw [e1, e2]
        exact .cons hk h1 h2 ih
theorem rpN_snoc {K : Kx} {F : Hp} {k : NestedKey} {ka : Addr} {v : V} {dk d : D} (hk : nkD dk = some k) (rk : Rp K F (.ref ka) dk) (rv : Rp K F v d) : ∀ {es : List (D × D)} {xs : List (NestedKey × Addr × V)}, RpN K F xs es → RpN K F (xs ++ [(k, ka, v)]) (es ++ [(dk, d)])
  | [], _, r => by cases r; exact .cons hk rk rv .nil
  | (_, _) :: es, _, r => by
    cases r with
    | cons hk' h1 h2 h3 => exact .cons hk' h1 h2 (rpN_snoc hk rk rv h3)
theorem rpN_put {K : Kx} {F : Hp} {k : NestedKey} {ka : Addr} {v : V} {dk d : D} {xs : List (NestedKey × Addr × V)} {es : List (D × D)} (r : RpN K F xs es) (hk : nkD dk = some k) (rk : Rp K F (.ref ka) dk) (rv : Rp K F v d) : RpN K F (putN xs k ka v) (putD es dk d) := by
  unfold putN putD
  rw [rpN_any r, hk]
  split
  · exact rpN_map rv r
  · exact rpN_snoc hk rk rv r
theorem rpN_len {K : Kx} {F : Hp} : ∀ {es : List (D × D)} {xs : List (NestedKey × Addr × V)}, RpN K F xs es → xs.length = es.length
  | [], _, r => by cases r; rfl
  | (_, _) :: es, _, r => by
    cases r with
    | cons hk' h1 h2 h3 => exact congrArg (· + 1) (rpN_len h3)
theorem own_dic {K : Kx} {F H : Hp} {a : Addr} {es : List (D × D)} (h : OwnAt K F H a (.dict es)) : F a = none ∧ ∃ xs, H a = some (dicO K a xs) ∧ RpN K F xs es := by
  obtain ⟨f, h⟩ := h
  rcases h with ⟨xs, ds', e, _⟩ | ⟨xs, es', e, hh, r⟩
  · cases e
  · cases e
    exact ⟨f, xs, hh, r⟩
def keyTup : D → Bool
  | .tuple _ => true
  | _ => false
theorem rp_ref {K : Kx} {F : Hp} {y : V} {dk : D} {k : NestedKey} (r : Rp K F y dk) (hk : keyTup dk = true) : ∃ ka, y = .ref ka := by
  cases dk <;> simp only [keyTup, Bool.false_eq_true] at hk
  cases r
  exact ⟨_, rfl⟩
def sSetK (i : Nat) (gv gk : Md D) : Sd := fun ρ => (gv ρ).bind fun p => match p.2[i]? with
  | some (some (.own _ _)) => (gk p.2).bind fun q => match q.2[i]? with
    | some (some (.own b (.dict es))) => if keyTup q.1 = true ∧ (nkD q.1).isSome = true ∧ es.length < 16777216 then some (.nx, q.2.set i (some (.own b (.dict (putD es q.1 p.1))))) else none
    | _ => none
  | _ => none
theorem ds_setK (i : Nat) {y : Str} {py tpos : Pos} {e a : Expr} {gv gi : Md D} (hu : X.A.units + 65 < cLine) (he : DE X e gv) (hi : DE X a gi) (hN : X.N[i]? = some y := by rfl) (hv : Vis X.env.scope y := by first | exact Or.inl rfl | exact Or.inr (Or.inl rfl) | exact Or.inr (Or.inr rfl)) (hdy : (y == ("__debug__" : Str)) = false := by decide) (hcd : (y == ("__classdict__" : Str)) = false := by decide)
    (ha : ∀ v, assign (.Subscript (.Name y py) a tpos) X.env v = (do let ov ← holding [v] (eval (.Name y py) X.env); let iv ← holding [v, ov] (eval a X.env); standAt tpos; holding [v, ov, iv] (setItem ov iv v); release [v, ov, iv] []) := by intro _; rfl)
    (hs : swapsWithSole [.Subscript (.Name y py) a tpos] e pos.line X.env = pure false := by rfl) (hw : swappedStores [.Subscript (.Name y py) a tpos] e X.env = pure none := by rfl) : DS X (.Assign [.Subscript (.Name y py) a tpos] e pos) (sSetK i gv gi) :=
  ps_imp (ps_asg he (pg_sub (pe_var hN hv hdy hcd) hi (set_dicN hu) ha) hs hw) fun E σ H q => by
    obtain ⟨F, ρ, f, ρ', s, eg, k⟩ := q
    obtain ⟨⟨d, ρ1⟩, e1, eg1⟩ := bind_some eg
    simp only at eg1
    split at eg1
    · rename_i b0 d0 h0
      obtain ⟨⟨dk, ρ2⟩, e2, eg2⟩ := bind_some eg1
      simp only at eg2
      split at eg2
      · rename_i b1 es h1
        split at eg2
        · rename_i hc
          cases eg2
          obtain ⟨kk, hkk⟩ := Option.isSome_iff_exists.mp hc.2.1
          refine ⟨F, ρ, d, ρ1, s, e1, fun v F1 H1 p1 s1 r1 => ?_⟩
          obtain ⟨a0, ea, o0, _⟩ := st_owned s1 h0
          refine ⟨.ref a0, ea, F1, ρ1, _, ρ2, s1, e2, fun u F2 H2 p2 s2 r2 => ?_⟩
          obtain ⟨a1, ea1, o1, _⟩ := st_owned s2 h1
          rw [ea] at ea1
          cases ea1
          obtain ⟨f1, xs, hx, rx⟩ := own_dic o1
          obtain ⟨ka, rfl⟩ := rp_ref (k := kk) r2 hc.1
          refine ⟨a0, xs, kk, ka, F2, es, dk, rfl, rfl, hx, s2.sub, rx, hkk, r2, by rw [rpN_len rx]; exact hc.2.2, ?_⟩
          have rp := rpN_put rx hkk r2 (dp_mono p2.ff _ _ r1)
          have o2 : OwnAt (cxK X) F2 (upd H2 a0 (dicO (cxK X) a0 (putN xs kk ka v))) a0 (.dict (putD es dk d)) := ⟨f1, .inr ⟨_, _, rfl, upd_same, rp⟩⟩
          have sh : Same F2 (upd H2 a0 (dicO (cxK X) a0 (putN xs kk ka v))) := fun c u hc' => by rw [upd_ne (ne_of_none hc' f1)]; exact s2.sub c u hc'
          obtain ⟨s3, p3⟩ := st_own_set s2 h1 ea (Same.refl _) sh (fun c u hc' n => ⟨by rw [upd_ne n]; exact hc', rfl⟩) o2
          exact k σ F2 _ (p1.trans (p2.trans p3)) s3
        · cases eg2
      · cases eg2
    · cases eg1
/-- d.get(k, x) -/
def atN (xs : List (NestedKey × Addr × V)) (k : NestedKey) : Option V := (xs.find? fun x => decide (x.1 = k)).map (·.2.2)
def atD (es : List (D × D)) (dk : D) : Option D := (es.find? fun p => decide (nkD p.1 = nkD dk)).map (·.2)
theorem atN_pair {k : NestedKey} : ∀ {xs : List (NestedKey × Addr × V)} {ys : List (NestedKey × Addr × Value)}, Paired PR xs ys → (atN xs k = none ∧ atKey ys k = none) ∨ ∃ x p, atN xs k = some x ∧ atKey ys k = some p ∧ RelV x p.2
  | _, _, .nil => .inl ⟨rfl, rfl⟩
  | _, _, .cons (a := x) (b := y) r t => by
    have ih := atN_pair (k := k) t
    unfold atN atKey at ih ⊢
    rw [List.find?_cons, List.find?_cons, r.1]
    by_cases h : y.1 = k
    · refine .inr ⟨x.2.2, y.2, ?_, ?_, r.2.2⟩ <;> simp [h]
    · simp only [h, decide_false]
      exact ih
theorem atN_data {K : Kx} {F : Hp} {k : NestedKey} {dk : D} (hk : nkD dk = some k) : ∀ {es : List (D × D)} {xs : List (NestedKey × Addr × V)}, RpN K F xs es → (atN xs k = none ∧ atD es dk = none) ∨ ∃ x d, atN xs k = some x ∧ atD es dk = some d ∧ Rp K F x d
  | [], _, r => by cases r; exact .inl ⟨rfl, rfl⟩
  | (dk', dv) :: es, _, r => by
    cases r with
    | @cons k' ka x _ _ xs' _ hk' h1 h2 h3 =>
      have ih := atN_data hk h3
      unfold atN atD at ih ⊢
      rw [List.find?_cons, List.find?_cons]
      by_cases z : k' = k
      · refine .inr ⟨x, dv, ?_, ?_, h2⟩ <;> simp [z, hk', hk]
      · have z2 : ¬ (some k' = some k) := fun q => z (Option.some.inj q)
        simp only [z, hk', hk, z2, decide_false]
        rw [hk] at ih
        exact ih
def rGetN (X : Cx) : V → List V → Hp → VK → Prop := fun o vs H Q => ∃ (a : Addr) (xs : List (NestedKey × Addr × V)) (k : NestedKey) (ka : Addr) (F : Hp) (es : List (D × D)) (dk : D) (x : V), o = .ref a ∧ vs = [.ref ka, x] ∧ H a = some (dicO (cxK X) a xs) ∧ Same F H ∧ RpN (cxK X) F xs es ∧ nkD dk = some k ∧ Rp (cxK X) F (.ref ka) dk ∧ Q ((atN xs k).getD x) H
theorem mt_getN (hu : X.A.units + 65 < cLine) : MtR X "dict.get" (rGetN X) := by
  intro pins s σ H o vs ov us Q I ro rvs h
  obtain ⟨a, xs, k, ka, F, es, dk, x, rfl, rfl, hH, sf, rn, hk, rk, q⟩ := h
  cases ro
  cases rvs with
  | cons r1 r2 =>
    cases r1
    cases r2 with
    | cons r3 r4 =>
      cases r4
      obtain ⟨hm, ys, p, dH⟩ := dict_at I sf hH rn
      obtain ⟨n1, n2, n3⟩ := nkD_some hk
      obtain ⟨as, rd⟩ := Dp.reads I dk (.ref ka) (.ref ka) (rp_dp (dp_mono sf _ _ rk) n3) rfl
      refine PySem.getOr_keyed (knd := nestedKind X.prog X.w) (show X.A.units + 1 + 8 < cLine by omega) ⟨nis dk _ _ _ n1 rd, n2⟩ hm ⟨ys, dH, rfl⟩ ?_
      rw [PySem.valueAt_pairsH]
      rcases atN_pair (k := k) p with ⟨e1, e2⟩ | ⟨w, z, e1, e2, rw'⟩
      · rw [e1] at q
        rw [e2]
        exact ⟨x, H, I.tok _, r3, q⟩
      · rw [e1] at q
        rw [e2]
        exact ⟨w, H, I.tok _, rw', q⟩
/-- a method of an own dict, read by its name -/
def tMN (X : Cx) (r : V → List V → Hp → VK → Prop) (i : Nat) (t : TA) : TE := fun σ H Q => ∃ (a : Addr) (F : Hp) (xs : List (NestedKey × Addr × V)) (es : List (D × D)), σ[i]? = some (some (.ref a)) ∧ Same F H ∧ H a = some (dicO (cxK X) a xs) ∧ RpN (cxK X) F xs es ∧ t σ H fun vs H2 => r (.ref a) vs H2 Q
theorem pe_mN {e : Expr} {es : List Expr} {t : TA} {name y : Str} {py apos cpos : Pos} {id : String} {r : V → List V → Hp → VK → Prop} (i : Nat) (pa : PlainAttrs "dict") (slot : Slot "dict" name id) (hty : typeOf (.builtin id) = pure (.type "method_descriptor")) (hm : MtR X id r) (hN : X.N[i]? = some y) (hv : Vis X.env.scope y) (ha : PA X (e :: es) t) (hdy : (y == ("__debug__" : Str)) = false := by decide) (hcd : (y == ("__classdict__" : Str)) = false := by decide)
    (hbase : attributeBase (.Name y py) name X.env (eval (.Name y py) X.env) = eval (.Name y py) X.env := by rfl)
    (hfew : ((backTo cpos (starEach (e :: es) X.env)).all (fun x => !x.1) && (backToKw cpos (keywordEach [] X.env)).all (fun x => x.1.isSome)
      && decide ((e :: es).length + ([] : List Keyword).length + (if ([] : List Keyword).isEmpty then 0 else 1) < 30)) = true := by rfl)
    (hline : (apos.endLine == cpos.line) = true := by rfl) (hs : starEach (e :: es) X.env = (false, eval e X.env) :: starEach es X.env := by rfl) (hplain : (backTo cpos (starEach es X.env)).any (·.1) = false := by rfl) :
    PE X (.Call (.Attribute (.Name y py) name apos) (e :: es) [] cpos) (tMN X r i t) := by
  refine ⟨fun pins s σ H Q I h => ?_⟩
  obtain ⟨a, F, xs, ds, hi, sf, hH, rn, q⟩ := h
  have hvar : tVar i σ H fun x H1 => x = .ref a ∧ H1 = H := ⟨.ref a, hi, rfl, rfl⟩
  refine wpAny_Call_method_late hbase hfew hline rfl (thn ((pe_var hN hv hdy hcd).run pins s σ H _ I hvar) fun v s1 ⟨x, H1, I1, r1, ex, eH⟩ => ?_)
  subst ex eH
  obtain ⟨hms, ys, p, dH⟩ := dict_at I1 sf hH rn
  have h1 := dH.typeIs
  cases r1
  have h2 : ∀ b, Value.ref a = .ref b → ∃ ob, s1.heap.get? b = some ob ∧ ob.dict = none := fun b eb => by
    cases eb
    obtain ⟨ob, _, _, g1, g2, _⟩ := dH
    exact ⟨ob, g1, g2.2.1⟩
  refine ⟨"dict", id, pa, slot, hty, h1, h2, ?_⟩
  have hA := ha.run cpos pins s1 σ _ _ I1 q
  rw [hs] at hA ⊢
  refine Calls.callWith_builtin (by show (false || (backTo cpos (starEach es X.env)).any (·.1)) = false; rw [hplain] <;> rfl) (Calls.evalArgs_plain ?_)
  exact thn hA fun us s2 ⟨vs, H2, I2, r2, q2⟩ => hm pins s2 σ H2 (.ref a) vs _ us Q I2 (show RelV (.ref a) (Value.ref a) from rfl) r2 q2
def gGet (i : Nat) (gk gx : Md D) : Md D := fun ρ => match ρ[i]? with
  | some (some (.own _ (.dict _))) => (gk ρ).bind fun p => (gx p.2).bind fun q => match q.2[i]? with
    | some (some (.own _ (.dict es))) => if keyTup p.1 = true ∧ (nkD p.1).isSome = true then some ((atD es p.1).getD q.1, q.2) else none
    | _ => none
  | _ => none
theorem de_get (i : Nat) {ce : Expr} {gk gx : Md D} (he : PE X ce (tMN X (rGetN X) i (tCons (tD (cxK X) gk) (tCons (tD (cxK X) gx) tNil)))) : DE X ce (gGet i gk gx) :=
  pe_imp he fun σ H Q q => by
    obtain ⟨F, ρ, d, ρ', s, eg, k⟩ := q
    unfold gGet at eg
    split at eg
    · rename_i b0 es0 h0
      obtain ⟨a, ea, o0, _⟩ := st_owned s h0
      obtain ⟨_, xs0, hx0, rx0⟩ := own_dic o0
      obtain ⟨⟨dk, ρ1⟩, e1, eg⟩ := bind_some eg
      obtain ⟨⟨dx, ρ2⟩, e2, eg⟩ := bind_some eg
      simp only at eg
      split at eg
      · rename_i b1 es h1
        split at eg
        · rename_i hc
          cases eg
          obtain ⟨kk, hkk⟩ := Option.isSome_iff_exists.mp hc.2
          refine ⟨a, F, xs0, es0, ea, s.sub, hx0, rx0, F, ρ, dk, ρ1, s, e1, fun u F1 H1 p1 s1 r1 => ⟨F1, ρ1, dx, _, s1, e2, fun w F2 H2 p2 s2 r2 => ?_⟩⟩
          obtain ⟨ka, rfl⟩ := rp_ref (k := kk) r1 hc.1
          obtain ⟨a1, ea1, o1, _⟩ := st_owned s2 h1
          rw [ea] at ea1
          cases ea1
          obtain ⟨f1, xs, hx, rx⟩ := own_dic o1
          refine ⟨a, xs, kk, ka, F2, es, dk, w, rfl, rfl, hx, s2.sub, rx, hkk, dp_mono p2.ff _ _ r1, ?_⟩
          rcases atN_data hkk rx with ⟨g1, g2⟩ | ⟨x, dd, g1, g2, g3⟩
          · rw [g1]
            rw [g2] at k
            exact k w F2 H2 (p1.trans p2) s2 r2
          · rw [g1]
            rw [g2] at k
            exact k x F2 H2 (p1.trans p2) s2 g3
        · cases eg
      · cases eg
    · cases eg
/-- d[k] -/
def rIxN (X : Cx) : R2 := fun o y H Q => ∃ (a : Addr) (xs : List (NestedKey × Addr × V)) (k : NestedKey) (ka : Addr) (F : Hp) (es : List (D × D)) (dk : D) (x : V), o = .ref a ∧ y = .ref ka ∧ H a = some (dicO (cxK X) a xs) ∧ Same F H ∧ RpN (cxK X) F xs es ∧ nkD dk = some k ∧ Rp (cxK X) F (.ref ka) dk ∧ atN xs k = some x ∧ Q x H
theorem ix_dicN (hu : X.A.units + 65 < cLine) : IxR X (rIxN X) := by
  intro value slice pins s σ H o y ov iv Q I ro ri h hsub
  obtain ⟨a, xs, k, ka, F, es, dk, x, rfl, rfl, hH, sf, rn, hk, rk, hx, q⟩ := h
  cases ro
  cases ri
  obtain ⟨hm, ys, p, dH⟩ := dict_at I sf hH rn
  obtain ⟨n1, n2, n3⟩ := nkD_some hk
  obtain ⟨as, rd⟩ := Dp.reads I dk (.ref ka) (.ref ka) (rp_dp (dp_mono sf _ _ rk) n3) rfl
  rcases atN_pair (k := k) p with ⟨e1, e2⟩ | ⟨w, z, e1, e2, rw'⟩
  · rw [hx] at e1
    cases e1
  · rw [hx] at e1
    cases e1
    have gi : wpAny (model X.prog X.w) X.A (getItem (.ref a) (.ref ka)) (EP X pins σ Q) X.xe s := by
      refine PySem.getItem_keyed (knd := nestedKind X.prog X.w) (v := z.2) (show X.A.units + 1 + 8 < cLine by omega) ⟨nis dk _ _ _ n1 rd, n2⟩ ⟨ys, dH, rfl⟩ (by rw [PySem.valueAt_pairsH, e2]; rfl) ?_
      exact ⟨x, H, I.tok _, rw', q⟩
    unfold subscriptTail
    refine wpAny_bind ?_
    rw [getitemInPython_of_ne dH.typeIs.not_modules]
    refine wpAny_bind (wpAny_specialOf dH.typeIs PySem.F.slot_dict_getitem.lookup ?_)
    have fin : wpAny (model X.prog X.w) X.A (subscripted slice false (.ref a) (.ref ka)) (fun r s₃ => wpAny (model X.prog X.w) X.A (letTemporaryGo value (.ref a) r >>= fun _ => pure r) (EP X pins σ Q) X.xe s₃) X.xe s := by
      rw [hsub]
      exact wpAny_operating (wpAny_mono gi (fun r s₃ h₃ => wpAny_bind (wpAny_letTemporaryGo (wpAny_pure h₃))) fun _ _ x => x)
    first
      | exact wpAny_pure (wpAny_bind fin)
      | exact wpAny_bind (wpAny_pure (wpAny_bind fin))
      | exact wpAny_bind fin
def gIxK (i : Nat) (gk : Md D) : Md D := fun ρ => match ρ[i]? with
  | some (some (.own _ (.dict _))) => (gk ρ).bind fun p => match p.2[i]? with
    | some (some (.own _ (.dict es))) => if keyTup p.1 = true ∧ (nkD p.1).isSome = true then (atD es p.1).bind fun r => some (r, p.2) else none
    | _ => none
  | _ => none
theorem de_ixK (i : Nat) {y : Str} {py : Pos} {a : Expr} {gk : Md D} (hu : X.A.units + 65 < cLine) (hk : DE X a gk) (hN : X.N[i]? = some y := by rfl) (hy : Vis X.env.scope y := by first | exact Or.inl rfl | exact Or.inr (Or.inl rfl) | exact Or.inr (Or.inr rfl)) (hs : PlainIx a := by intro _ _; rfl) (hdy : (y == ("__debug__" : Str)) = false := by decide) (hcd : (y == ("__classdict__" : Str)) = false := by decide) : DE X (.Subscript (.Name y py) a pos) (gIxK i gk) :=
  pe_imp (pe_ix (ix_dicN hu) (pe_var hN hy hdy hcd) hk hs) fun σ H Q q => by
    obtain ⟨F, ρ, d, ρ', s, eg, k⟩ := q
    unfold gIxK at eg
    split at eg
    · rename_i b0 es0 h0
      obtain ⟨a0, ea, o0, _⟩ := st_owned s h0
      obtain ⟨⟨dk, ρ1⟩, e1, eg⟩ := bind_some eg
      simp only at eg
      split at eg
      · rename_i b1 es h1
        split at eg
        · rename_i hc
          obtain ⟨r, e2, eg⟩ := bind_some eg
          cases eg
          obtain ⟨kk, hkk⟩ := Option.isSome_iff_exists.mp hc.2
          refine ⟨.ref a0, ea, F, ρ, dk, _, s, e1, fun u F1 H1 p1 s1 r1 => ?_⟩
          obtain ⟨ka, rfl⟩ := rp_ref (k := kk) r1 hc.1
          obtain ⟨a1, ea1, o1, _⟩ := st_owned s1 h1
          rw [ea] at ea1
          cases ea1
          obtain ⟨f1, xs, hx, rx⟩ := own_dic o1
          rcases atN_data hkk rx with ⟨g1, g2⟩ | ⟨x, dd, g1, g2, g3⟩
          · rw [e2] at g2
            cases g2
          · rw [e2] at g2
            cases g2
            exact ⟨a0, xs, kk, ka, F1, es, dk, x, rfl, rfl, hx, s1.sub, rx, hkk, r1, g1, k x F1 H1 p1 s1 g3⟩
        · cases eg
      · cases eg
    · cases eg
end
end Dn
set_option maxHeartbeats 2000000
/-! sorted(d) of an own dict, list.extend -/
namespace Dn
open PySem PySem.Spec PyProof.Rows L2 DnSo
section
variable {X : Cx} {pos p : Pos} {x y : Str} {py : Pos}
theorem triN {K : Kx} {F : Hp} : ∀ {es : List (D × D)} {xs : List (NestedKey × Addr × V)} {ys : List (NestedKey × Addr × Value)}, RpN K F xs es → Paired PR xs ys → Tri K F (xs.map fun x => V.ref x.2.1) (ys.map fun y => Value.ref y.2.1) (es.map (·.1))
  | [], _, _, r, p => by
    cases r
    cases p
    exact .nil
  | (dk, dv) :: es, _, _, r, p => by
    cases r with
    | cons hk h1 h2 h3 =>
      cases p with
      | cons a b =>
        refine .cons ?_ h1 (triN h3 b)
        show RelV (V.ref _) (Value.ref _)
        rw [a.2.1]
        rfl
/-- collect of what is walked: the heap only grows -/
theorem coll_src {P : Program} {w : World} {B : Around} {G : Value → Shared → Prop} {s : Shared} {T : String} {r d : Addr} {n : Nat} {Z : Nat → Value → Prop} {OK : Heap → Prop} {R : List Value → Shared → Prop}
    (S : PySem.W.KdlSrc P w T r d n Z OK) (hB : B.handled = none) (ok : OK s.heap) (hn : n ≤ sizeLine)
    (k : ∀ (g : Heap) (tk : Nat) (ac : Array Value), s.heap.objs.size ≤ g.objs.size → (∀ c u, s.heap.get? c = some u → g.get? c = some u) → ItemsOf Z ac n → R ac.toList { s with heap := g, toks := tk }) :
    wpAny (model P w) B (collect (.ref r)) R G s := by
  obtain ⟨l1, l2⟩ := S.there _ ok
  unfold collect
  refine wpAny_bind (wpAny_runValue
    (codeAny_builtin entry_proto_collect' ?_))
  rw [Around.under_plainId PySem.F.plain_proto_collect _]
  show wpAny _ B.in1
    (newList [] >>= fun z => again (.builtin "list.__iadd__" ⟨[z, .ref r], []⟩)) _ _ s
  refine wpAny_bind
    (wpAny_newObj_type ?_)
  refine wpAny_pure
    ⟨plainId_quiet PySem.F.plain_list_iadd _, codeAny_builtin entry_list_iadd' ?_⟩
  rw [Around.under_plainId PySem.F.plain_list_iadd _]
  have hnew : (s.heap.push { cls := .type "list", data := .seq ([] : List Value).toArray }).get? s.heap.objs.size = some { cls := .type "list", data := .seq #[] } := Heap.get?_push_size _ rfl
  show wpAny _ B.in1
    (Builtin.List.listExtendWith (.ref s.heap.objs.size) (.ref r) (.ref s.heap.objs.size)) _ _ _
  have main := PySem.W.kdl_extend (A := B) (s := { s with heap := s.heap.push { cls := .type "list", data := .seq ([] : List Value).toArray } })
    (R := fun (q : Result) (z : Shared) => ∃ (g : Heap) (tk : Nat) (ac : Array Value) (c : Nat), q = .ok (.ret (.ref s.heap.objs.size)) ∧ z = { s with heap := g, toks := tk } ∧
      (∀ b o, s.heap.get? b = some o → g.get? b = some o) ∧ g.get? s.heap.objs.size = some { cls := .type "list", dict := none, data := .seq ac c, slots := #[] } ∧ ItemsOf Z ac n)
    S hB (S.keep _ _ ok fun b _ o e => Heap.get?_push_of_some _ e) s.heap.objs.size (Nat.ne_of_gt l1) (Nat.ne_of_gt l2) (.ref s.heap.objs.size) 0 hnew
    (fun g tk ac c q1 q2 q3 => ⟨g, tk, ac, c, rfl, rfl, fun b o e => q1 b o (Nat.ne_of_lt (Heap.lt_size e)) (Heap.get?_push_of_some _ e), q2, q3⟩) hn
  refine wpAny_mono main (fun fin z x => ?_) fun e z x => ?_
  · cases fin with
    | done f =>
      obtain ⟨g, tk, ac, c, e, rfl, q1, q2, q3⟩ := x
      cases e
      show wpAny _ B
        (load s.heap.objs.size >>= _) _ _ _
      exact wpAny_bind (wpAny_load q2 (wpAny_pure (k g tk ac (Nat.le_of_lt (Heap.lt_size q2)) q1 q3)))
    | again c₁ =>
      refine ⟨x.1, codeAny_mono x.2 fun q z2 y => ?_⟩
      obtain ⟨g, tk, ac, c, rfl, rfl, q1, q2, q3⟩ := y
      show wpAny _ B
        (load s.heap.objs.size >>= _) _ _ _
      exact wpAny_bind (wpAny_load q2 (wpAny_pure (k g tk ac (Nat.le_of_lt (Heap.lt_size q2)) q1 q3)))
  · obtain ⟨_, _, _, _, e', _⟩ := x
    cases e'
/-- a dict whose keys are tuples; the empty one may be of the other kind -/
def DicAt (K : Kx) (F H : Hp) (a : Addr) (es : List (D × D)) : Prop := (∃ xs, H a = some (dicO K a xs) ∧ RpN K F xs es) ∨ (es = [] ∧ H a = some (.dK []))
theorem dic_at {pins : List (Addr × Obj)} {s : Shared} {σ : L2.St} {F H : Hp} {a : Addr} {es : List (D × D)} (I : Inv X pins σ H s) (sf : Same F H) (h : DicAt (cxK X) F H a es) :
    (a == sysModules) = false ∧ ∃ xs ys, RpN (cxK X) F xs es ∧ Paired PR xs ys ∧ s.heap.DictOfH (nestedKind X.prog X.w) a ys := by
  rcases h with ⟨xs, hH, rn⟩ | ⟨rfl, hH⟩
  · obtain ⟨hm, ys, p, dH⟩ := dict_at I sf hH rn
    exact ⟨hm, xs, ys, rn, p, dH⟩
  · obtain ⟨_, hm, vs, kv, dO⟩ := I.hok a _ hH
    cases kv
    obtain ⟨es', ep, ⟨o, ho, hc, hd⟩, hsz, _⟩ := dO.raw
    have he : es' = #[] := Array.eq_empty_of_size_eq_zero hsz
    subst he
    exact ⟨hm, [], [], .nil, .nil, o, #[], ep, ho, hc, hd, rfl, by simp, List.nodup_nil⟩
/-- .. one key alone may be of any shape -/
def sortOkN (ds : List D) : Bool := sortOk ds || (decide (ds.length < 2) && ds.all fun d => ord0 d && d.canLay0 && decide (d.depth ≤ 8))
theorem sortOkN_facts {ds : List D} (h : sortOkN ds = true) : ds.length ≤ 16777216 ∧ (∀ d ∈ ds, (ord0 d = true ∧ d.canLay0 = true) ∧ d.depth ≤ 8) ∧ (sortOk ds = true ∨ ds.length < 2) := by
  unfold sortOkN at h
  rw [Bool.or_eq_true] at h
  rcases h with h | h
  · refine ⟨?_, ?_, .inl h⟩
    · unfold sortOk at h
      simp only [Bool.and_eq_true, List.all_eq_true, decide_eq_true_eq] at h
      exact h.1.1.1
    · unfold sortOk at h
      simp only [Bool.and_eq_true, List.all_eq_true, decide_eq_true_eq] at h
      exact h.1.1.2
  · simp only [Bool.and_eq_true, List.all_eq_true, decide_eq_true_eq] at h
    exact ⟨by omega, h.2, .inr h.1⟩
def rSrtN (X : Cx) : List V → Hp → VK → Prop := fun vs H Q => ∃ (a : Addr) (F : Hp) (es : List (D × D)), vs = [.ref a] ∧ Same F H ∧ DicAt (cxK X) F H a es ∧ sortOkN (es.map (·.1)) = true ∧
  ∀ b F' H', Grow F H F' H' → OwnAt (cxK X) F' H' b (.list ((es.map (·.1)).mergeSort leD3)) → H b = none → Q (.ref b) H'
theorem call_sortN (hc : X.calm = true) (hu : X.A.units + 65 < cLine) : CallR X (.builtin "sorted") (rSrtN X) := by
  intro pins s σ H vs us Q I rx h
  obtain ⟨a, F, es, rfl, sf, hD, ok, k⟩ := h
  obtain ⟨hm, xs, ys, rn, p, dH⟩ := dic_at I sf hD
  have T := triN rn p
  rw [Vals.ref1 rx]
  obtain ⟨hlen0, hdd, hok⟩ := sortOkN_facts ok
  have rd : ∀ x u d, d ∈ es.map (·.1) → RelV x u → Rp (cxK X) F x d → ∃ as, Reads s.heap u d as := fun x u d hd hr hp => Dp.reads I d x u (rp_dp (dp_mono sf _ _ hp) (hdd d hd).1.2) hr
  obtain ⟨es', ep, raw, hsz, hks⟩ := dH.raw
  have hyl : ys.length = (es.map (·.1)).length := by rw [List.length_map, ← Paired.length p, rpN_len rn]
  have hn : es'.size ≤ sizeLine := by rw [hsz, hyl, line_eq]; exact hlen0
  refine Calls.call_function_entry kind_sorted plain_sorted entry_sorted (args_sorted1 _) ?_
  unfold Builtin.«sorted»
  refine wpAny_bind (m := checkCount "sorted" 1 1 _) (wpAny_pure ?_)
  refine wpAny_bind (coll_src (B := X.A.in1) (PySem.KdlSrc.rawDict hm) (I.ok.hd hc) raw hn fun h' tk acc hsl hk hacc => ?_)
  have hvs : acc.toList = ys.map fun y => Value.ref y.2.1 := by
    apply List.ext_getElem?
    intro i
    rw [Array.getElem?_toList, List.getElem?_map]
    by_cases hi : i < es'.size
    · have hia : i < acc.size := by rw [hacc.1]; exact hi
      rw [Array.getElem?_eq_getElem hia]
      obtain ⟨hi', e1⟩ := hacc.2 i _ (Array.getElem?_eq_getElem hia)
      obtain ⟨y, e2, e3, _⟩ := hks i hi
      rw [e1, e3, e2]
      rfl
    · have hia : acc.size ≤ i := by rw [hacc.1]; omega
      rw [Array.getElem?_eq_none hia, List.getElem?_eq_none (by omega)]
      rfl
  rw [hvs]
  generalize hU : (ys.map fun y => Value.ref y.2.1) = us' at T hvs ⊢
  have hul : us'.length ≤ sizeLine := by rw [← hU, List.length_map, hyl, line_eq]; exact hlen0
  refine wpAny_bind (wpAny_newList ?_ hul)
  have hoL : (h'.push (seqObj "list" us'.toArray 0)).get? h'.objs.size = some (seqObj "list" us'.toArray 0) := Heap.get?_push_size _ rfl
  have keep : ∀ b o, s.heap.get? b = some o → b ≠ h'.objs.size ∧ (h'.push (seqObj "list" us'.toArray 0)).get? b = some o := fun b o q => ⟨Nat.ne_of_lt (Heap.lt_size (hk b o q)), Heap.get?_push_of_some _ (hk b o q)⟩
  show wpAny _ _ _ _ _ { s with heap := h'.push (seqObj "list" us'.toArray 0), toks := tk }
  refine wpAny_bind (wpAny_holding (wpAny_call_entry slot_list_sort ⟨_, hoL, rfl⟩ entry_list_sort (SrtO.list_sort_ord (swoK s.heap) hoL hul (fun h2 => ?_) fun out h1 h2 => ⟨_, rfl, ?_⟩) (args_list_sort _)))
  · have ok2 : sortOk (es.map (·.1)) = true := hok.resolve_right fun z => by
      have : us'.length = (es.map (·.1)).length := by rw [← hU, List.length_map, hyl]
      omega
    refine sortableK (ds := es.map (·.1)) (fun v hm => ?_) ok2 h2 keep (by show X.A.units + 1 + 1 + 20 < cLine; omega)
    obtain ⟨x, d, h3, h4, h5⟩ := T.mem v hm
    obtain ⟨as, h6⟩ := rd x v d h3 h4 h5
    exact ⟨d, as, h3, h6⟩
  · obtain ⟨xs', ds', T', pm⟩ := T.perm h2.perm.symm
    have ek : out.map (kOf s.heap) = ds' := T'.map fun x u d hd hr hp => by
      obtain ⟨as, h6⟩ := rd x u d (pm.mem_iff.mp hd) hr hp
      exact kOf_eq h6
    have es2 : ds' = (es.map (·.1)).mergeSort leD3 := sort_one (fun d hd => (hdd d hd).1.1) pm (by
      rw [← ek]
      exact List.pairwise_map.mpr h1)
    obtain ⟨ep', he'⟩ := sortedHeap_at (out := out.toArray) hoL
    have hlen : xs'.length ≤ sizeLine := by
      rw [line_eq, da_len T'.all, pm.length_eq]
      exact hlen0
    have hp : H h'.objs.size = none := I.hok.fresh hsl
    rw [← es2] at k
    refine wpAny_pure ⟨_, rfl, .ref h'.objs.size, upd H h'.objs.size (.lst xs'), I.laid (a := h'.objs.size) (t' := tk) (fun b o q => ?_) hsl ⟨hlen, out, ep', T'.vals, he'⟩, rfl, k _ _ _ (Grow.own sf hp) (own_new sf hp T'.all) hp⟩
    rw [sortedHeap_old (keep b o q).1 (Heap.lt_size (keep b o q).2)]
    exact (keep b o q).2
def gSortN (i : Nat) : Md D := fun ρ => match ρ[i]? with
  | some (some (.own _ (.dict es))) => if sortOk (es.map (·.1)) = true then some (.list ((es.map (·.1)).mergeSort leD3), ρ) else none
  | _ => none
theorem df_sortN (i : Nat) (hc : X.calm = true) (hu : X.A.units + 65 < cLine) (hg : Gl X "sorted") (hm : X.mg "sorted" = none) (hb : bootBuiltins "sorted" = some (.builtin "sorted")) (hN : X.N[i]? = some y := by rfl) (hy : Vis X.env.scope y := by first | exact Or.inl rfl | exact Or.inr (Or.inl rfl) | exact Or.inr (Or.inr rfl)) (hdy : (y == ("__debug__" : Str)) = false := by decide) (hcd : (y == ("__classdict__" : Str)) = false := by decide)
    (he : starEach (.Name y py :: []) X.env = (false, eval (.Name y py) X.env) :: starEach [] X.env := by rfl) : DF X (.Call (.Name "sorted" p) (.Name y py :: []) [] pos) (gSortN i) :=
  pe_imp (pe_callB (call_sortN hc hu) hg hm hb (pa_cons (pe_var hN hy hdy hcd) pa_nil he) (by decide) (by decide) he (by rfl)) fun σ H Q q => by
    obtain ⟨F, ρ, d, ρ', s, eg, k⟩ := q
    unfold gSortN at eg
    split at eg
    · rename_i b0 es h0
      split at eg
      · rename_i ok
        cases eg
        obtain ⟨a, ea, o0, _⟩ := st_owned s h0
        obtain ⟨_, xs, hx, rx⟩ := own_dic o0
        exact ⟨.ref a, ea, a, F, es, rfl, s.sub, .inl ⟨xs, hx, rx⟩, by unfold sortOkN; rw [ok]; rfl, fun b F' H' gr o hn => k b F' H' (gr.stp σ _) (s.grow gr) o (not_owns s hn) hn⟩
      · cases eg
    · cases eg
/-- list.extend by any list -/
def rExtS (K : PySem.W.Frag) : V → List V → Hp → VK → Prop := fun x vs H Q => ∃ l b xs zs, x = .ref l ∧ vs = [.ref b] ∧ H l = some (.lst xs) ∧ SqL K H b zs ∧ xs.length + zs.length ≤ sizeLine ∧ Q .non (upd H l (.lst (xs ++ zs)))
theorem mt_extS : MtM X "list.extend" (rExtS X.K) := by
  intro pins s σ H x vs v us Q I rx rv h
  obtain ⟨l, b, xs, zs, rfl, rfl, hH, hB, hz, q⟩ := h
  cases rx
  obtain ⟨u, rfl, ru⟩ := rv.one
  cases ru
  obtain ⟨z, its, n, r, hl, e⟩ := I.lstM hH
  obtain ⟨its2, r2, ⟨o2, n2, e2, c2, _, d2⟩, hl2⟩ := I.list hB
  have hi2 := r2.length
  have hsz : its.toArray.size + its2.toArray.size ≤ sizeLine := by rw [List.size_toArray, List.size_toArray]; omega
  have hlong : ¬ (!its.toArray.isEmpty && Builtin.List.listTooLong (its.toArray.size + its2.toArray.size)) = true := by
    rw [notLongL hsz, Bool.and_false]
    exact Bool.false_ne_true
  refine wpAny_call_entry F.slot_list_extend ⟨_, e, rfl⟩ F.entry_list_extend ?_ (F.args_list_extend_2 _ _)
  show wpAny _ _ (Builtin.List.listExtendWith (.ref l) (.ref b) .none) _ _ s
  unfold Builtin.List.listExtendWith
  refine wpAny_bind (wpAny_typeOf (T := "list") ⟨o2, e2, c2⟩ ?_)
  have ht : (Value.type "list" == Value.type "list") = true := by rfl
  rw [if_pos (by rw [ht]; simp)]
  refine wpAny_bind (listItems_at e2 d2 ?_)
  refine wpAny_bind (listItems_at (xs := its.toArray) (n := n) e rfl ?_)
  rw [if_neg hlong]
  refine wpAny_bind (listUpdate_at (xs := its.toArray) (n := n) e rfl ?_ (by rw [List.size_toArray]; omega) (by rw [Array.size_append]; omega))
  refine wpAny_pure ⟨.none, rfl, .non, _, I.lset (its' := its ++ its2) hH e (by simp) (r.append r2) ?_, rfl, q⟩
  rw [List.length_append]
  omega
def lsD : D → Option (List D)
  | .list ds => some ds
  | _ => none
def sExt (i : Nat) (g : Md D) : Sd := fun ρ => match ρ[i]? with
  | some (some (.own _ (.list _))) => (g ρ).bind fun p => match p.2[i]? with
    | some (some (.own b (.list ds))) => (lsD p.1).bind fun es => if ds.length + es.length ≤ 16777216 then some (.nx, p.2.set i (some (.own b (.list (ds ++ es))))) else none
    | _ => none
  | _ => none
theorem ds_ext (i : Nat) {ce : Expr} {g : Md D} (he : PE X ce (tBM (cxK X) "list" (rExtS X.K) (tVar i) (tCons (tD (cxK X) g) tNil))) (hs : swapsWith ce none pos.line X.env = pure false := by rfl) : DS X (.Expr ce pos) (sExt i g) :=
  ps_imp (ps_expr he hs) fun E σ H q => by
    obtain ⟨F, ρ, f, ρ', s, eg, k⟩ := q
    unfold sExt at eg
    split at eg
    · rename_i b0 d0 h0
      obtain ⟨a, ea, o0, _⟩ := st_owned s h0
      obtain ⟨_, xs0, hx0, _⟩ := own_lst o0
      obtain ⟨⟨d, ρ1⟩, e1, eg1⟩ := bind_some eg
      simp only at eg1
      split at eg1
      · rename_i b1 ds h1
        obtain ⟨es, e2, eg2⟩ := bind_some eg1
        split at eg2
        · rename_i hl
          cases eg2
          cases d <;> cases e2
          refine ⟨.ref a, ea, .inl ⟨rfl, xs0, SqL.of hx0⟩, F, ρ, _, ρ1, s, e1, fun v F1 H1 p1 s1 r1 => ?_⟩
          obtain ⟨a1, ea1, o1, _⟩ := st_owned s1 h1
          rw [ea] at ea1
          cases ea1
          obtain ⟨f1, xs, hx, rx⟩ := own_lst o1
          cases r1 with
          | @lst b zs _ hb rz =>
            refine ⟨a, b, xs, zs, rfl, rfl, hx, s1.sub.seq hb, by rw [line_eq, da_len rx, da_len rz]; exact hl, ?_⟩
            obtain ⟨o2, sh, kp⟩ := own_write s1.sub f1 hx (da_app rx rz)
            obtain ⟨s2, p2⟩ := st_own_set s1 h1 ea (Same.refl _) sh kp o2
            exact k σ F1 _ (p1.trans p2) s2
        · cases eg2
      · cases eg1
    · cases eg
end
end Dn
set_option maxHeartbeats 2000000
/-! groups.setdefault(key, []).append(item), turn by turn -/
namespace Dn
open PySem PySem.Spec PyProof.Rows L2 DnSo
def addL (es : List D) (x : D) : D := .list (es ++ [x])
/-- an item behind the list at its key -/
def appG : List (D × D) → D → D → List (D × D)
  | [], k, x => [(k, .list [x])]
  | (k', d) :: es, k, x => if nkD k' = nkD k then (k', match d with | .list ds => .list (ds ++ [x]) | d => d) :: es else (k', d) :: appG es k x
def lenG : List (D × D) → D → Nat
  | [], _ => 0
  | (k', d) :: es, k => if nkD k' = nkD k then (match d with | .list ds => ds.length | _ => 0) else lenG es k
inductive RpG (K : Kx) (F H : Hp) : List (NestedKey × Addr × V) → List (D × D) → List Addr → Prop
  | nil : RpG K F H [] [] []
  | cons {k : NestedKey} {ka la : Addr} {dk : D} {vs : List V} {ds : List D} {xs : List (NestedKey × Addr × V)} {es : List (D × D)} {las : List Addr} (hk : nkD dk = some k) (h1 : Rp K F (.ref ka) dk) (hf : F la = none) (hh : H la = some (.lst vs)) (h2 : RpAll K F vs ds) (hn : la ∉ las) (t : RpG K F H xs es las) : RpG K F H ((k, ka, .ref la) :: xs) ((dk, .list ds) :: es) (la :: las)
theorem RpG.mono {K : Kx} {F F' H H' : Hp} (f : Same F F') : ∀ {xs es las}, RpG K F H xs es las → (∀ b ∈ las, F' b = F b ∧ H' b = H b) → RpG K F' H' xs es las
  | _, _, _, .nil, _ => .nil
  | _, _, _, .cons (la := la) hk h1 hf hh h2 hn t, h => by
    obtain ⟨e1, e2⟩ := h la List.mem_cons_self
    exact .cons hk (dp_mono f _ _ h1) (e1.trans hf) (e2.trans hh) (dpAll_mono f _ _ h2) hn (t.mono f fun b hb => h b (List.mem_cons_of_mem _ hb))
theorem RpG.len {K : Kx} {F H : Hp} : ∀ {xs es las}, RpG K F H xs es las → xs.length = es.length
  | _, _, _, .nil => rfl
  | _, _, _, .cons _ _ _ _ _ _ t => congrArg (· + 1) t.len
theorem RpG.free {K : Kx} {F H : Hp} : ∀ {xs es las}, RpG K F H xs es las → ∀ b ∈ las, F b = none ∧ ∃ vs, H b = some (.lst vs)
  | _, _, _, .nil, b, hb => by cases hb
  | _, _, _, .cons _ _ hf hh _ _ t, b, hb => by
    rcases List.mem_cons.mp hb with rfl | hb
    · exact ⟨hf, _, hh⟩
    · exact t.free b hb
open Classical in
/-- what stands for good, and the lists -/
noncomputable def ext (F H : Hp) (las : List Addr) : Hp := fun b => if b ∈ las then H b else F b
theorem ext_in {F H : Hp} {las : List Addr} {b : Addr} (h : b ∈ las) : ext F H las b = H b := if_pos h
theorem ext_out {F H : Hp} {las : List Addr} {b : Addr} (h : b ∉ las) : ext F H las b = F b := if_neg h
theorem ext_same {F H : Hp} {las : List Addr} (h : ∀ b ∈ las, F b = none) : Same F (ext F H las) := fun b o e => by
  by_cases z : b ∈ las
  · rw [h b z] at e; cases e
  · rw [ext_out z]; exact e
theorem ext_sub {F H : Hp} {las : List Addr} (s : Same F H) : Same (ext F H las) H := fun b o e => by
  by_cases z : b ∈ las
  · rw [ext_in z] at e; exact e
  · rw [ext_out z] at e; exact s b o e
theorem RpG.rpN {K : Kx} {F H : Hp} {las0 : List Addr} (h0 : ∀ b ∈ las0, F b = none) : ∀ {xs es las}, RpG K F H xs es las → (∀ b ∈ las, b ∈ las0) → RpN K (ext F H las0) xs es
  | _, _, _, .nil, _ => .nil
  | _, _, _, .cons (la := la) hk h1 hf hh h2 hn t, h => by
    have f := ext_same (H := H) h0
    exact .cons hk (dp_mono f _ _ h1) (.lst (SqL.of (by rw [ext_in (h la List.mem_cons_self)]; exact hh)) (dpAll_mono f _ _ h2)) (t.rpN h0 fun b hb => h b (List.mem_cons_of_mem _ hb))
theorem rpG_app {K : Kx} {F H : Hp} {k : NestedKey} {ka : Addr} {dk d : D} {v : V} (hk : nkD dk = some k) (rk : Rp K F (.ref ka) dk) (rv : Rp K F v d) : ∀ {xs es las}, RpG K F H xs es las →
    (atN xs k = none ∧ ∀ la, F la = none → la ∉ las → RpG K F (upd H la (.lst [v])) (xs ++ [(k, ka, .ref la)]) (appG es dk d) (las ++ [la])) ∨
    (∃ la vs, la ∈ las ∧ atN xs k = some (.ref la) ∧ H la = some (.lst vs) ∧ vs.length = lenG es dk ∧ RpG K F (upd H la (.lst (vs ++ [v]))) xs (appG es dk d) las)
  | _, _, _, .nil => .inl ⟨rfl, fun la hf _ => .cons hk rk hf upd_same (.cons rv .nil) (by simp) .nil⟩
  | _, _, _, .cons (k := k') (ka := ka') (la := la') (dk := dk') (vs := vs') (ds := ds') (xs := xs) (es := es) (las := las) hk' h1 hf hh h2 hn t => by
    by_cases z : k' = k
    · refine .inr ⟨la', vs', List.mem_cons_self, ?_, hh, ?_, ?_⟩
      · unfold atN
        rw [List.find?_cons]
        simp [z]
      · unfold lenG
        rw [if_pos (by rw [hk', hk, z]), da_len h2]
      · unfold appG
        rw [if_pos (by rw [hk', hk, z])]
        exact .cons hk' h1 hf upd_same (da_app h2 (.cons rv .nil)) hn (t.mono (Same.refl _) fun b hb => ⟨rfl, upd_ne fun e => hn (e ▸ hb)⟩)
    · have z2 : ¬ nkD dk' = nkD dk := fun q => z (by rw [hk', hk] at q; exact Option.some.inj q)
      have ea : atN ((k', ka', V.ref la') :: xs) k = atN xs k := by
        unfold atN
        rw [List.find?_cons]
        simp [z]
      rcases rpG_app hk rk rv t with ⟨e1, e2⟩ | ⟨la, vs, e1, e2, e3, e4, e5⟩
      · refine .inl ⟨ea.trans e1, fun la f0 n0 => ?_⟩
        unfold appG
        rw [if_neg z2]
        have n1 : la' ≠ la := fun q => n0 (q ▸ List.mem_cons_self)
        refine .cons hk' h1 hf (by rw [upd_ne n1]; exact hh) h2 (fun q => ?_) (e2 la f0 fun q => n0 (List.mem_cons_of_mem _ q))
        rcases List.mem_append.mp q with q | q
        · exact hn q
        · exact n1 (List.mem_singleton.mp q)
      · refine .inr ⟨la, vs, List.mem_cons_of_mem _ e1, ea.trans e2, e3, ?_, ?_⟩
        · unfold lenG
          rw [if_neg z2]
          exact e4
        · unfold appG
          rw [if_neg z2]
          have n1 : la' ≠ la := fun q => hn (q ▸ e1)
          exact .cons hk' h1 hf (by rw [upd_ne n1]; exact hh) h2 hn e5
/-- the groups, beside the state -/
structure Gh (K : Kx) (F H : Hp) (σ : L2.St) (ρ : Env) (H0 : Hp) (i : Nat) (a : Addr) (xs : List (NestedKey × Addr × V)) (es : List (D × D)) (las : List Addr) : Prop where
  slot : σ[i]? = some (some (.ref a))
  fa : F a = none
  ha : H a = some (dicO K a xs)
  rg : RpG K F H xs es las
  na : a ∉ las
  own : ∀ b ∈ las, ¬ Owns σ ρ b ∧ H0 b = none
  no : ¬ Owns σ ρ a
theorem Gh.step {K : Kx} {F H F' H' : Hp} {σ σ' : L2.St} {ρ ρ' : Env} {H0 : Hp} {i : Nat} {a : Addr} {xs es las} (g : Gh K F H σ ρ H0 i a xs es las) (p : Stp F σ ρ H F' σ' ρ' H') (e : σ'[i]? = σ[i]?) : Gh K F' H' σ' ρ' H0 i a xs es las := by
  have kp : ∀ b ∈ las, F' b = F b ∧ H' b = H b := fun b hb => by
    obtain ⟨vs, hv⟩ := (g.rg.free b hb).2
    obtain ⟨k1, k2⟩ := p.keep b _ hv (g.own b hb).1
    exact ⟨k2, k1.trans hv.symm⟩
  have fr : ∀ b, (∃ o, H b = some o) → ¬ Owns σ ρ b → ¬ Owns σ' ρ' b := fun b ho hn z => by
    rcases p.fresh b z with q | q
    · exact hn q
    · obtain ⟨o, ho⟩ := ho
      rw [q] at ho
      cases ho
  obtain ⟨k1, k2⟩ := p.keep a _ g.ha g.no
  exact ⟨e.trans g.slot, k2.trans g.fa, k1, g.rg.mono p.ff kp, g.na, fun b hb => ⟨fr b (let ⟨vs, hv⟩ := (g.rg.free b hb).2; ⟨_, hv⟩) (g.own b hb).1, (g.own b hb).2⟩, fr a ⟨_, g.ha⟩ g.no⟩
theorem st_ext {K : Kx} {F H : Hp} {σ : L2.St} {ρ : Env} {las : List Addr} (s : St K F H σ ρ) (h : ∀ b ∈ las, F b = none ∧ ¬ Owns σ ρ b) : St K (ext F H las) H σ ρ where
  sub := ext_sub s.sub
  len := s.len
  cell := fun i c e => by
    have q := s.cell i c e
    have f := ext_same (H := H) (las := las) fun b hb => (h b hb).1
    cases c with
    | val d =>
      obtain ⟨v, e1, r⟩ := q
      exact ⟨v, e1, dp_mono f _ _ r⟩
    | own f0 d =>
      obtain ⟨a, e1, r1, r2⟩ := q
      exact ⟨a, e1, (ext_out fun z => (h a z).2 ⟨i, f0, d, e, e1⟩).trans r1, r2.mono f fun o e => e⟩
  dist := s.dist
/-- what is changed was one's own at the start, or is new since -/
theorem stp_poke {F0 F : Hp} {σ0 σ : L2.St} {ρ0 ρ : Env} {H0 H : Hp} (p : Stp F0 σ0 ρ0 H0 F σ ρ H) {b : Addr} {o : HO} (hb : H0 b = none ∨ Owns σ0 ρ0 b) : Stp F0 σ0 ρ0 H0 F σ ρ (upd H b o) := by
  refine ⟨p.ff, fun c u h n => ?_, p.fresh, p.fix, fun c u h => ?_⟩
  · have z : c ≠ b := fun z => by
      subst z
      rcases hb with q | q
      · rw [q] at h; cases h
      · exact n q
    rw [upd_ne z]
    exact p.keep c u h n
  · obtain ⟨o', ho⟩ := p.dom c u h
    by_cases z : c = b
    · subst z
      exact ⟨o, upd_same⟩
    · exact ⟨o', by rw [upd_ne z]; exact ho⟩
theorem stp_ice {F0 F F' : Hp} {σ0 σ : L2.St} {ρ0 ρ : Env} {H0 H : Hp} (p : Stp F0 σ0 ρ0 H0 F σ ρ H) (f : Same F F') (h : ∀ b, F' b ≠ F b → H0 b = none ∨ Owns σ0 ρ0 b) : Stp F0 σ0 ρ0 H0 F' σ ρ H := by
  refine ⟨p.ff.trans f, fun c u hc n => ?_, p.fresh, p.fix, p.dom⟩
  obtain ⟨k1, k2⟩ := p.keep c u hc n
  refine ⟨k1, ?_⟩
  by_cases z : F' c = F c
  · exact z.trans k2
  · rcases h c z with q | q
    · rw [q] at hc; cases hc
    · exact absurd q n
section
variable {X : Cx} {pos : Pos}
/-- d.setdefault(k, x) of the program -/
def rSetdN (X : Cx) : V → List V → Hp → VK → Prop := fun o vs H Q => ∃ (a : Addr) (xs : List (NestedKey × Addr × V)) (k : NestedKey) (ka : Addr) (G : Hp) (es : List (D × D)) (dk : D) (x : V), o = .ref a ∧ vs = [.ref ka, x] ∧ H a = some (dicO (cxK X) a xs) ∧ Same G H ∧ RpN (cxK X) G xs es ∧ nkD dk = some k ∧ Rp (cxK X) G (.ref ka) dk ∧ xs.length ≤ 16777216 ∧
  (∀ y, atN xs k = some y → Q y H) ∧ (atN xs k = none → Q x (upd H a (dicO (cxK X) a (xs ++ [(k, ka, x)]))))
theorem mt_setdN (hu : X.A.units + 65 < cLine) : MtR X "dict.setdefault" (rSetdN X) := by
  intro pins s σ H o vs ov us Q I ro rvs h
  obtain ⟨a, xs, k, ka, F, es, dk, x, rfl, rfl, hH, sf, rn, hk, rk, hl, q1, q2⟩ := h
  cases ro
  cases rvs with
  | cons r1 r2 =>
    cases r1
    cases r2 with
    | cons r3 r4 =>
      cases r4
      obtain ⟨hm, ys, p, dH⟩ := dict_at I sf hH rn
      obtain ⟨n1, n2, n3⟩ := nkD_some hk
      obtain ⟨as, rd⟩ := Dp.reads I dk (.ref ka) (.ref ka) (rp_dp (dp_mono sf _ _ rk) n3) rfl
      refine PySem.call_setdefault_heap (knd := nestedKind X.prog X.w) (show X.A.units + 1 + 8 < cLine by omega) ⟨nis dk _ _ _ n1 rd, n2⟩ hm dH (fun z hz => ?_) (fun hn h' dd' hs => ?_) (by rw [← Paired.length p, line_eq]; exact hl)
      · rcases atN_pair (k := k) p with ⟨e1, e2⟩ | ⟨w, z', e1, e2, rw'⟩
        · rw [e2] at hz
          cases hz
        · rw [e2] at hz
          cases hz
          exact ⟨w, H, I.tok _, rw', q1 w e1⟩
      · have e1 : atN xs k = none := by
          rcases atN_pair (k := k) p with ⟨e1, e2⟩ | ⟨w, z', e1, e2, rw'⟩
          · exact e1
          · rw [e2] at hn
            cases hn
        have hq : ∃ o, h'.get? a = some o := let ⟨o, _, _, e, _⟩ := dd'; ⟨o, e⟩
        rw [storedH_new hn] at dd'
        have I2 := I.write (x := a) (e := a) (o := dicO (cxK X) a (xs ++ [(k, ka, x)])) (h' := h') (t' := s.toks + (nestedKind X.prog X.w).draws k) (by rw [hH]; exact True.intro) (.inl rfl) (fun b ob nb e => (hs.2 b nb).trans e) hq (dicO_ok hm (p.snoc (show PR (k, ka, x) (k, ka, _) from ⟨rfl, rfl, r3⟩)) dd')
        exact ⟨x, _, I2, r3, q2 e1⟩
/-- the loop on data -/
def grpD (gt : D → Env → Option Env) (p : Nat) (g0 gk gx : Md D) : List D → List (D × D) → Env → Option (List (D × D) × Env)
  | [], es, ρ => some (es, ρ)
  | d :: ds, es, ρ => (gt d ρ).bind fun ρ1 => (g0 ρ1).bind fun q0 => (setC p (.val q0.1) q0.2).bind fun ρ2 => (gk ρ2).bind fun q1 => (gx q1.2).bind fun q2 =>
      if keyTup q1.1 = true ∧ (nkD q1.1).isSome = true ∧ es.length < 16777216 ∧ lenG es q1.1 < 16777216 then grpD gt p g0 gk gx ds (appG es q1.1 q2.1) q2.2 else none
def emptyOwn : Option (Option Cell) → Bool
  | some (some (.own false (.dict []))) => true
  | _ => false
def sGrp (i : Nat) (gi : Md (List D)) (gt : D → Env → Option Env) (p : Nat) (g0 gk gx : Md D) : Sd := fun ρ => (gi ρ).bind fun q => if emptyOwn q.2[i]? = true then
    (grpD gt p g0 gk gx q.1 [] (q.2.set i none)).bind fun r => (setC i (.val (.dict r.1)) r.2).bind fun ρ' => some (.nx, ρ') else none
theorem emptyOwn_some {o : Option (Option Cell)} (h : emptyOwn o = true) : o = some (some (.own false (.dict []))) := by
  unfold emptyOwn at h
  split at h
  · rfl
  · cases h
/-- the turn's reading -/
def tTurn (X : Cx) (i p : Nat) (g0 gk gx : Md D) : TS := tSeq (tAsg (tD (cxK X) g0) (gName p)) (tSeq (tDrop (tBM (cxK X) "list" rAppend (tMN X (rSetdN X) i (tCons (tD (cxK X) gk) (tCons (tF (cxK X) (gApp mkLst gNil)) tNil))) (tCons (tD (cxK X) gx) tNil))) tNext)
theorem turn_ok {i p : Nat} {g0 gk gx : Md D} (hip : p ≠ i) {E : Ends} {F H : Hp} {σ : L2.St} {ρ ρ2 : Env} {q0 q1 q2 : D × Env} {a : Addr} {xs : List (NestedKey × Addr × V)} {es : List (D × D)} {las : List Addr} {Fs : Hp} {σs : L2.St} {ρs : Env} {Hs : Hp}
    (s : St (cxK X) F H σ ρ) (g : Gh (cxK X) F H σ ρ Hs i a xs es las) (pp : Stp Fs σs ρs Hs F σ ρ H) (oa : Owns σs ρs a)
    (e0 : g0 ρ = some q0) (ec : setC p (.val q0.1) q0.2 = some ρ2) (e1 : gk ρ2 = some q1) (e2 : gx q1.2 = some q2) (hc : keyTup q1.1 = true ∧ (nkD q1.1).isSome = true ∧ es.length < 16777216 ∧ lenG es q1.1 < 16777216)
    (k : ∀ F' σ' H' xs' las', Same F F' → Stp Fs σs ρs Hs F' σ' q2.2 H' → St (cxK X) F' H' σ' q2.2 → Gh (cxK X) F' H' σ' q2.2 Hs i a xs' (appG es q1.1 q2.1) las' → E.nx σ' H') : tTurn X i p g0 gk gx E σ H := by
  obtain ⟨kk, hkk⟩ := Option.isSome_iff_exists.mp hc.2.1
  refine ⟨F, ρ, q0.1, q0.2, s, e0, fun v F1 H1 p1 s1 r1 => ?_⟩
  have p1' := stp_set (v := v) p1 ec fun _ _ _ z => nomatch z
  have s1' := st_set (v := v) s1 ec ⟨v, rfl, r1⟩ fun _ _ _ z => nomatch z
  have si : (σ.set p (some v))[i]? = σ[i]? := get_set_ne (Ne.symm hip)
  have g1 := g.step p1' si
  have pp1 := pp.trans p1'
  show tBM (cxK X) "list" rAppend (tMN X (rSetdN X) i (tCons (tD (cxK X) gk) (tCons (tF (cxK X) (gApp mkLst gNil)) tNil))) (tCons (tD (cxK X) gx) tNil) (σ.set p (some v)) H1 fun _ H' => E.nx (σ.set p (some v)) H'
  generalize σ.set p (some v) = σ1 at p1' s1' si g1 pp1 ⊢
  have fr1 : ∀ b ∈ las, F1 b = none := fun b hb => (g1.rg.free b hb).1
  refine ⟨a, ext F1 H1 las, xs, es, g1.slot, ext_sub s1'.sub, g1.ha, g1.rg.rpN fr1 fun _ h => h, F1, ρ2, q1.1, q1.2, s1', e1, fun u F2 H2 p2 s2 r2 => ?_⟩
  obtain ⟨ka, rfl⟩ := rp_ref (k := kk) r2 hc.1
  have g2 := g1.step p2 rfl
  have pp2 := pp1.trans p2
  refine ⟨F2, q1.2, .list [], q1.2, s2, rfl, fun ln F3 H3 p3 s3 o3 no3 hn3 => ?_⟩
  have g3 := g2.step p3 rfl
  have pp3 := pp2.trans p3
  obtain ⟨fl, vl, hvl, rvl⟩ := own_lst o3
  cases rvl
  have hs3 : Hs ln = none := pp2.none hn3
  have lnn : ln ∉ las := fun z => by
    obtain ⟨vs, hv⟩ := (g2.rg.free ln z).2
    rw [hn3] at hv
    cases hv
  have lna : ln ≠ a := fun z => by
    have := g2.ha
    rw [← z, hn3] at this
    cases this
  have r3 := dp_mono p3.ff _ _ r2
  have fr3 : ∀ b ∈ las, F3 b = none := fun b hb => (g3.rg.free b hb).1
  have sx := ext_same (H := H3) fr3
  refine ⟨a, xs, kk, ka, ext F3 H3 las, es, q1.1, .ref ln, rfl, rfl, g3.ha, ext_sub s3.sub, g3.rg.rpN fr3 fun _ h => h, hkk, dp_mono sx _ _ r3, by rw [g3.rg.len]; omega, fun y hy => ?_, fun hy => ?_⟩
  · -- the key is there
    have ex : ∃ la vs, la ∈ las ∧ y = .ref la ∧ H3 la = some (.lst vs) := by
      rcases rpG_app hkk r3 (Rp.non (K := cxK X) (H := F3)) g3.rg with ⟨z1, _⟩ | ⟨la, vs, z1, z2, z3, _⟩
      · rw [z1] at hy; cases hy
      · rw [z2] at hy
        cases hy
        exact ⟨la, vs, z1, rfl, z3⟩
    obtain ⟨la0, vs0, _, rfl, hla0⟩ := ex
    refine ⟨.inl ⟨rfl, vs0, SqL.of hla0⟩, F3, q1.2, q2.1, q2.2, s3, e2, fun w F4 H4 p4 s4 r4 => ?_⟩
    have g4 := g3.step p4 rfl
    have pp4 := pp3.trans p4
    have r4k := dp_mono p4.ff _ _ r3
    rcases rpG_app hkk r4k r4 g4.rg with ⟨z1, _⟩ | ⟨la, vs, z1, z2, z3, z4, z5⟩
    · rw [z1] at hy; cases hy
    · rw [z2] at hy
      cases hy
      refine ⟨la0, vs, w, rfl, rfl, z3, by rw [line_eq, z4]; exact hc.2.2.2, ?_⟩
      obtain ⟨f4, _⟩ := g4.rg.free la0 z1
      have hno := (g4.own la0 z1).1
      have hal : a ≠ la0 := fun z => g4.na (z ▸ z1)
      refine k F4 σ1 _ xs las (p1'.ff.trans (p2.ff.trans (p3.ff.trans p4.ff))) (stp_poke pp4 (.inl (g4.own la0 z1).2)) (st_side s4 f4 hno) ⟨g4.slot, g4.fa, by rw [upd_ne hal]; exact g4.ha, z5, g4.na, g4.own, g4.no⟩
  · -- a new key
    have g3l : St (cxK X) F3 (upd H3 a (dicO (cxK X) a (xs ++ [(kk, ka, .ref ln)]))) σ1 q1.2 := st_side s3 g3.fa g3.no
    have pp3l := stp_poke (o := dicO (cxK X) a (xs ++ [(kk, ka, .ref ln)])) pp3 (.inr oa)
    have hl4 : upd H3 a (dicO (cxK X) a (xs ++ [(kk, ka, .ref ln)])) ln = some (.lst []) := by
      rw [upd_ne lna]
      exact hvl
    refine ⟨.inl ⟨rfl, [], SqL.of hl4⟩, F3, q1.2, q2.1, q2.2, g3l, e2, fun w F4 H4 p4 s4 r4 => ?_⟩
    have pp4 := pp3l.trans p4
    obtain ⟨c1, c2⟩ := p4.keep a _ upd_same g3.no
    obtain ⟨c3, c4⟩ := p4.keep ln _ hl4 no3
    have fr : ∀ b, (∃ o, upd H3 a (dicO (cxK X) a (xs ++ [(kk, ka, .ref ln)])) b = some o) → ¬ Owns σ1 q1.2 b → ¬ Owns σ1 q2.2 b := fun b ho hn z => by
      rcases p4.fresh b z with q | q
      · exact hn q
      · obtain ⟨o, ho⟩ := ho
        rw [q] at ho
        cases ho
    have noa := fr a ⟨_, upd_same⟩ g3.no
    have nol := fr ln ⟨_, hl4⟩ no3
    have rg4 : RpG (cxK X) F4 H4 xs es las := g3.rg.mono p4.ff fun b hb => by
      obtain ⟨vs, hv⟩ := (g3.rg.free b hb).2
      have nb : b ≠ a := fun z => g3.na (z ▸ hb)
      have hv2 : upd H3 a (dicO (cxK X) a (xs ++ [(kk, ka, .ref ln)])) b = some (.lst vs) := by rw [upd_ne nb]; exact hv
      obtain ⟨d1, d2⟩ := p4.keep b _ hv2 (g3.own b hb).1
      exact ⟨d2, d1.trans hv.symm⟩
    have r4k := dp_mono p4.ff _ _ r3
    rcases rpG_app hkk r4k r4 rg4 with ⟨z1, z2⟩ | ⟨la, vs, z1, z2, _⟩
    · refine ⟨ln, [], w, rfl, rfl, c3, by rw [line_eq]; exact Nat.zero_lt_succ _, ?_⟩
      show E.nx σ1 (upd H4 ln (.lst [w]))
      have f4 : F4 ln = none := c4.trans fl
      refine k F4 σ1 _ (xs ++ [(kk, ka, .ref ln)]) (las ++ [ln]) (p1'.ff.trans (p2.ff.trans (p3.ff.trans p4.ff))) (stp_poke pp4 (.inl hs3)) (st_side s4 f4 nol) ⟨g3.slot, c2.trans g3.fa, by rw [upd_ne (Ne.symm lna)]; exact c1, z2 ln f4 lnn, fun z => ?_, fun b hb => ?_, noa⟩
      · rcases List.mem_append.mp z with z | z
        · exact g3.na z
        · exact lna (List.mem_singleton.mp z).symm
      · rcases List.mem_append.mp hb with h | h
        · refine ⟨fr b ?_ (g3.own b h).1, (g3.own b h).2⟩
          obtain ⟨vs, hv⟩ := (g3.rg.free b h).2
          have nb : b ≠ a := fun z => g3.na (z ▸ h)
          exact ⟨_, by rw [upd_ne nb]; exact hv⟩
        · rw [List.mem_singleton.mp h]
          exact ⟨nol, hs3⟩
    · rw [z2] at hy; cases hy
theorem ds_grp (i p : Nat) {tg iter : Expr} {gi : Md (List D)} {gt : D → Env → Option Env} {is : List Nat} {g0 gk gx : Md D} {body : List Stmt} (hc : X.calm = true) (hp : PassesOwn (model X.prog X.w) X.A X.env X.xe) (hi : DI X tg iter gi) (hg : DG X tg is gt) (hb : PSs X body (tTurn X i p g0 gk gx)) (hip : p ≠ i) (his : i ∉ is) (hs : ∀ x, foldedSetIterable iter X.env x = pure x := by intro _; rfl) : DS X (.For tg iter body [] pos) (sGrp i gi gt p g0 gk gx) :=
  ps_imp (ps_for hp hc hi hg hb hs) fun E σ H q => by
    obtain ⟨F, ρ, f, ρ', s, eg, k⟩ := q
    obtain ⟨⟨ds, ρ1⟩, e1, eg1⟩ := bind_some eg
    simp only at eg1
    split at eg1
    · rename_i hemp
      have hown := emptyOwn_some hemp
      obtain ⟨⟨esf, ρf⟩, e2, eg2⟩ := bind_some eg1
      obtain ⟨ρe, e3, eg3⟩ := bind_some eg2
      cases eg3
      refine ⟨F, ρ, ds, ρ1, s, e1, fun J F1 H1 p1 s1 ok => ?_⟩
      obtain ⟨a, ea, o0, _⟩ := st_owned s1 hown
      obtain ⟨fa, xs0, hx0, rx0⟩ := own_dic o0
      cases rx0
      have oa : Owns σ ρ1 a := ⟨i, false, _, hown, ea⟩
      -- the slot forgotten
      have hil : i < ρ1.length := (List.getElem?_eq_some_iff.mp hown).1
      have sub : ∀ (j : Nat) (c : Cell), (ρ1.set i none)[j]? = some (some c) → j ≠ i ∧ ρ1[j]? = some (some c) := fun j c hj => by
        by_cases z : j = i
        · subst z
          rw [List.getElem?_set_self hil] at hj
          cases hj
        · rw [get_set_ne z] at hj
          exact ⟨z, hj⟩
      have s1f : St (cxK X) F1 H1 σ (ρ1.set i none) := ⟨s1.sub, by rw [List.length_set]; exact s1.len, fun j c hj => s1.cell j c (sub j c hj).2, fun j l f g d e b h1 h2 h3 h4 => s1.dist j l f g d e b (sub j _ h1).2 (sub l _ h2).2 h3 h4⟩
      have noa : ¬ Owns σ (ρ1.set i none) a := fun ⟨j, f, d, h1, h2⟩ => (sub j _ h1).1 (s1.dist j i f false d _ a (sub j _ h1).2 hown h2 ea)
      have p0 : Stp F1 σ ρ1 H1 F1 σ (ρ1.set i none) H1 := ⟨Same.refl _, fun _ _ h _ => ⟨h, rfl⟩, fun b ⟨j, f, d, h1, h2⟩ => .inl ⟨j, f, d, (sub j _ h1).2, h2⟩, fun j d h => by
        have z : j ≠ i := fun z => by
          subst z
          rw [hown] at h
          cases h
        exact ⟨rfl, d, by rw [get_set_ne z]; exact h⟩, fun _ o h => ⟨o, h⟩⟩
      have g0' : Gh (cxK X) F1 H1 σ (ρ1.set i none) H1 i a [] [] [] := ⟨ea, fa, hx0, .nil, by simp, by simp, noa⟩
      refine ⟨fun j m σi Hi => ∃ Fi ρi es xs las, m = ds.length - j ∧ j ≤ ds.length ∧ Stp F1 σ ρ1 H1 Fi σi ρi Hi ∧ St (cxK X) Fi Hi σi ρi ∧ Same F1 Fi ∧ Gh (cxK X) Fi Hi σi ρi H1 i a xs es las ∧ grpD gt p g0 gk gx (ds.drop j) es ρi = some (esf, ρf), ⟨ds.length, F1, _, [], [], [], by simp, Nat.zero_le _, p0, s1f, Same.refl _, g0', by simpa using e2⟩, ?_⟩
      rintro j m σi Hi ⟨Fi, ρi, es, xs, las, rfl, hj, pi, si, sf, gi, ei⟩
      by_cases hlt : j < ds.length
      · have hd : ds[j]? = some ds[j] := List.getElem?_eq_getElem hlt
        obtain ⟨ok1, _⟩ := ok Fi Hi sf si.sub j
        obtain ⟨go, yl⟩ := ok1 _ hd
        rw [drop_cons hd] at ei
        obtain ⟨ρ2, c1, ei⟩ := bind_some ei
        obtain ⟨q0, c2, ei⟩ := bind_some ei
        obtain ⟨ρ3, c3, ei⟩ := bind_some ei
        obtain ⟨q1, c4, ei⟩ := bind_some ei
        obtain ⟨q2, c5, ei⟩ := bind_some ei
        split at ei
        · rename_i hcd
          refine .inr ⟨go, fun σ' H' => ∃ F' ρ'' es' xs' las', Stp F1 σ ρ1 H1 F' σ' ρ'' H' ∧ St (cxK X) F' H' σ' ρ'' ∧ Same F1 F' ∧ Gh (cxK X) F' H' σ' ρ'' H1 i a xs' es' las' ∧ grpD gt p g0 gk gx (ds.drop (j + 1)) es' ρ'' = some (esf, ρf), fun σ' H' ⟨F', ρ'', es', xs', las', h1, h2, h3, h4, h5⟩ => ⟨ds.length - (j + 1), by omega, F', ρ'', es', xs', las', rfl, hlt, h1, h2, h3, h4, h5⟩, fun v H' hy => ?_⟩
          obtain ⟨F', gr, rv⟩ := yl v H' hy
          have pg := gr.stp σi ρi
          have gg := gi.step pg rfl
          refine ⟨F', ρi, _, ρ2, si.grow gr, rv, c1, fun σ2 F2 H2 p2 s2 hk2 => ?_⟩
          have gg2 := gg.step p2 (hk2.2 i his)
          have pp2 := (pi.trans pg).trans p2
          exact turn_ok hip s2 gg2 pp2 oa c2 c3 c4 c5 hcd fun F3 σ3 H3 xs3 las3 f3 pp3 s3 g3 => ⟨F3, q2.2, appG es q1.1 q2.1, xs3, las3, pp3, s3, (sf.trans (gr.ff.trans p2.ff)).trans f3, g3, ei⟩
        · cases ei
      · have hj2 : j = ds.length := by omega
        subst hj2
        rw [List.drop_length] at ei
        cases ei
        obtain ⟨_, ok2⟩ := ok Fi Hi sf si.sub ds.length
        refine .inl ⟨ok2 (Nat.le_refl _), ?_⟩
        -- all of it stands for good now
        have fl : ∀ b ∈ las, Fi b = none ∧ ¬ Owns σi ρf b := fun b hb => ⟨(gi.rg.free b hb).1, (gi.own b hb).1⟩
        have se := st_ext si fl
        have fe := ext_same (H := Hi) (las := las) fun b hb => (fl b hb).1
        have fea : ext Fi Hi las a = none := (ext_out gi.na).trans gi.fa
        have sz := st_frz se fea gi.ha gi.no
        have fz : Same (ext Fi Hi las) (upd (ext Fi Hi las) a (dicO (cxK X) a xs)) := same_new fea
        have rz : RpN (cxK X) (upd (ext Fi Hi las) a (dicO (cxK X) a xs)) xs esf := dpN_mono fz _ _ (gi.rg.rpN (fun b hb => (fl b hb).1) fun _ h => h)
        have pz := stp_ice pi (fe.trans fz) fun b hb => by
          by_cases za : b = a
          · subst za
            exact .inr oa
          · rw [upd_ne za] at hb
            by_cases zl : b ∈ las
            · exact .inl (gi.own b zl).2
            · exact absurd (ext_out zl) hb
        have sσ : σi.set i (some (.ref a)) = σi := by
          have hl : i < σi.length := (List.getElem?_eq_some_iff.mp gi.slot).1
          apply List.ext_getElem?
          intro l
          by_cases z : l = i
          · subst z
            rw [List.getElem?_set_self hl, gi.slot]
          · rw [List.getElem?_set_ne (Ne.symm z)]
        have st2 := st_set (v := .ref a) sz e3 ⟨.ref a, rfl, .dicN upd_same rz⟩ fun _ _ _ z => nomatch z
        have pt2 := stp_set (v := .ref a) pz e3 fun _ _ _ z => nomatch z
        rw [sσ] at st2 pt2
        exact k σi _ Hi (p1.trans pt2) st2
    · cases eg1
end
end Dn
set_option maxHeartbeats 2000000
/-! dicts with tuple keys that stand for good: sorted, d[k], d.get; list.index -/
namespace Dn
open PySem PySem.Spec PyProof.Rows L2 DnSo
def keysTup (es : List (D × D)) : Bool := es.all fun p => keyTup p.1
theorem rp_dicAt {K : Kx} {F H : Hp} {v : V} {es : List (D × D)} (s : Same F H) (r : Rp K F v (.dict es)) (hk : keysTup es = true) : ∃ a, v = .ref a ∧ DicAt K F H a es := by
  cases r with
  | @dic a ks _ hs hr =>
    cases hr with
    | nil => exact ⟨a, rfl, .inr ⟨rfl, s _ _ hs⟩⟩
    | @cons k _ _ _ _ _ _ =>
      exfalso
      unfold keysTup at hk
      rw [List.all_cons, Bool.and_eq_true] at hk
      have h1 := hk.1
      cases k <;> cases h1
  | @dicN a xs _ hs hr => exact ⟨a, rfl, .inl ⟨xs, s _ _ hs, hr⟩⟩
def sortDF : List D → Option D
  | [.dict es] => if keysTup es = true ∧ sortOkN (es.map (·.1)) = true then some (.list ((es.map (·.1)).mergeSort leD3)) else none
  | _ => none
section
variable {X : Cx} {pos : Pos}
theorem call_sortDic (hc : X.calm = true) (hu : X.A.units + 65 < cLine) : CallR X (.builtin "sorted") (rFn (cxK X) sortDF) := by
  intro pins s σ H xs us Q I rx h
  obtain ⟨F, ds, r, sf, hd, ef, k⟩ := h
  unfold sortDF at ef
  split at ef
  · rename_i es
    split at ef
    · rename_i ok
      cases ef
      obtain ⟨v, rfl, hv⟩ := da1 hd
      obtain ⟨a, rfl, hD⟩ := rp_dicAt sf hv ok.1
      exact call_sortN hc hu pins s σ H _ us Q I rx ⟨a, F, es, rfl, sf, hD, ok.2, k⟩
    · cases ef
  · cases ef
/-- d[k] -/
def ixG : D → D → Option D
  | .dict es, k => if keysTup es = true ∧ keyTup k = true ∧ (nkD k).isSome = true then atD es k else none
  | _, _ => none
theorem ix_G (hu : X.A.units + 65 < cLine) : IxR X (rP2 (cxK X) ixG) := by
  intro value slice pins s σ H o y ov iv Q I ro ri h hsub
  obtain ⟨F, d, e, r, sf, hd, he, ef, k⟩ := h
  unfold ixG at ef
  split at ef
  · rename_i es dk
    split at ef
    · rename_i ok
      obtain ⟨a, rfl, hD⟩ := rp_dicAt sf hd ok.1
      obtain ⟨kk, hkk⟩ := Option.isSome_iff_exists.mp ok.2.2
      obtain ⟨ka, rfl⟩ := rp_ref (k := kk) he ok.2.1
      cases ro
      cases ri
      obtain ⟨hm, xs, ys, rn, p, dH⟩ := dic_at I sf hD
      obtain ⟨n1, n2, n3⟩ := nkD_some hkk
      obtain ⟨as, rd⟩ := Dp.reads I _ (.ref ka) (.ref ka) (rp_dp (dp_mono sf _ _ he) n3) rfl
      rcases atN_data hkk rn with ⟨g1, g2⟩ | ⟨x, dd, g1, g2, g3⟩
      · rw [g2] at ef; cases ef
      · rw [g2] at ef
        cases ef
        rcases atN_pair (k := kk) p with ⟨e1, e2⟩ | ⟨w, z, e1, e2, rw'⟩
        · rw [g1] at e1; cases e1
        · rw [g1] at e1
          cases e1
          have gi : wpAny (model X.prog X.w) X.A (getItem (.ref a) (.ref ka)) (EP X pins σ Q) X.xe s := by
            refine PySem.getItem_keyed (knd := nestedKind X.prog X.w) (v := z.2) (show X.A.units + 1 + 8 < cLine by omega) ⟨nis _ _ _ _ n1 rd, n2⟩ ⟨ys, dH, rfl⟩ (by rw [PySem.valueAt_pairsH, e2]; rfl) ?_
            exact ⟨x, H, I.tok _, rw', k x F H (Grow.refl sf) g3⟩
          unfold subscriptTail
          refine wpAny_bind ?_
          rw [getitemInPython_of_ne dH.typeIs.not_modules]
          refine wpAny_bind (wpAny_specialOf dH.typeIs PySem.F.slot_dict_getitem.lookup ?_)
          have fin : wpAny (model X.prog X.w) X.A (subscripted slice false (.ref a) (.ref ka)) (fun r s₃ => wpAny (model X.prog X.w) X.A (letTemporaryGo value (.ref a) r >>= fun _ => pure r) (EP X pins σ Q) X.xe s₃) X.xe s := by
            rw [hsub]
            exact wpAny_operating (wpAny_mono gi (fun r s₃ h₃ => wpAny_bind (wpAny_letTemporaryGo (wpAny_pure h₃))) fun _ _ x => x)
          first
            | exact wpAny_pure (wpAny_bind fin)
            | exact wpAny_bind (wpAny_pure (wpAny_bind fin))
            | exact wpAny_bind fin
    · cases ef
  · cases ef
/-- d.get(k, x), d an expression -/
def rGetD (X : Cx) : V → List V → Hp → VK → Prop := fun o vs H Q => ∃ (a ka : Addr) (F : Hp) (es : List (D × D)) (dk dx : D) (k : NestedKey) (x : V), o = .ref a ∧ vs = [.ref ka, x] ∧ Same F H ∧ DicAt (cxK X) F H a es ∧ nkD dk = some k ∧ Rp (cxK X) F (.ref ka) dk ∧ Rp (cxK X) F x dx ∧ ∀ y, Rp (cxK X) F y ((atD es dk).getD dx) → Q y H
theorem mt_getD (hu : X.A.units + 65 < cLine) : MtR X "dict.get" (rGetD X) := by
  intro pins s σ H o vs ov us Q I ro rvs h
  obtain ⟨a, ka, F, es, dk, dx, k, x, rfl, rfl, sf, hD, hk, rk, rx, q⟩ := h
  cases ro
  cases rvs with
  | cons r1 r2 =>
    cases r1
    cases r2 with
    | cons r3 r4 =>
      cases r4
      obtain ⟨hm, xs, ys, rn, p, dH⟩ := dic_at I sf hD
      obtain ⟨n1, n2, n3⟩ := nkD_some hk
      obtain ⟨as, rd⟩ := Dp.reads I dk (.ref ka) (.ref ka) (rp_dp (dp_mono sf _ _ rk) n3) rfl
      refine PySem.getOr_keyed (knd := nestedKind X.prog X.w) (show X.A.units + 1 + 8 < cLine by omega) ⟨nis dk _ _ _ n1 rd, n2⟩ hm ⟨ys, dH, rfl⟩ ?_
      rw [PySem.valueAt_pairsH]
      rcases atN_data hk rn with ⟨g1, g2⟩ | ⟨y, dd, g1, g2, g3⟩
      · rcases atN_pair (k := k) p with ⟨e1, e2⟩ | ⟨w, z, e1, e2, rw'⟩
        · rw [e2]
          rw [g2] at q
          exact ⟨x, H, I.tok _, r3, q x rx⟩
        · rw [g1] at e1; cases e1
      · rcases atN_pair (k := k) p with ⟨e1, e2⟩ | ⟨w, z, e1, e2, rw'⟩
        · rw [g1] at e1; cases e1
        · rw [g1] at e1
          cases e1
          rw [e2]
          rw [g2] at q
          exact ⟨y, H, I.tok _, rw', q y g3⟩
def tMD (X : Cx) (r : V → List V → Hp → VK → Prop) (to : TE) (t : TA) : TE := fun σ H Q => to σ H fun x H1 => (∃ (a : Addr) (F : Hp) (es : List (D × D)), x = .ref a ∧ Same F H1 ∧ DicAt (cxK X) F H1 a es) ∧ t σ H1 fun vs H2 => r x vs H2 Q
theorem pe_mD {o e : Expr} {es : List Expr} {to : TE} {t : TA} {name : Str} {apos cpos : Pos} {id : String} {r : V → List V → Hp → VK → Prop} (pa : PlainAttrs "dict") (slot : Slot "dict" name id) (hty : typeOf (.builtin id) = pure (.type "method_descriptor")) (hm : MtR X id r) (ho : PE X o to) (ha : PA X (e :: es) t)
    (hbase : attributeBase o name X.env (eval o X.env) = eval o X.env := by rfl)
    (hfew : ((backTo cpos (starEach (e :: es) X.env)).all (fun x => !x.1) && (backToKw cpos (keywordEach [] X.env)).all (fun x => x.1.isSome)
      && decide ((e :: es).length + ([] : List Keyword).length + (if ([] : List Keyword).isEmpty then 0 else 1) < 30)) = true := by rfl)
    (hline : (apos.endLine == cpos.line) = true := by rfl) (hs : starEach (e :: es) X.env = (false, eval e X.env) :: starEach es X.env := by rfl) (hplain : (backTo cpos (starEach es X.env)).any (·.1) = false := by rfl) :
    PE X (.Call (.Attribute o name apos) (e :: es) [] cpos) (tMD X r to t) := by
  refine ⟨fun pins s σ H Q I h => ?_⟩
  refine wpAny_Call_method_late hbase hfew hline rfl (thn (ho.run pins s σ H _ I h) fun v s1 ⟨x, H1, I1, r1, ty, q1⟩ => ?_)
  obtain ⟨a, F, ds, ex, sf, hD⟩ := ty
  subst ex
  obtain ⟨hms, xs, ys, rn, p, dH⟩ := dic_at I1 sf hD
  have h1 := dH.typeIs
  have r1' := r1
  cases r1'
  have h2 : ∀ b, Value.ref a = .ref b → ∃ ob, s1.heap.get? b = some ob ∧ ob.dict = none := fun b eb => by
    cases eb
    obtain ⟨ob, _, _, g1, g2, _⟩ := dH
    exact ⟨ob, g1, g2.2.1⟩
  refine ⟨"dict", id, pa, slot, hty, h1, h2, ?_⟩
  have hA := ha.run cpos pins s1 σ _ _ I1 q1
  rw [hs] at hA ⊢
  refine Calls.callWith_builtin (by show (false || (backTo cpos (starEach es X.env)).any (·.1)) = false; rw [hplain] <;> rfl) (Calls.evalArgs_plain ?_)
  exact thn hA fun us s2 ⟨vs, H2, I2, r2, q2⟩ => hm pins s2 σ H2 (.ref a) vs _ us Q I2 (show RelV (.ref a) (Value.ref a) from rfl) r2 q2
def getG : D → D → D → Option D
  | .dict es, k, x => if keysTup es = true ∧ keyTup k = true ∧ (nkD k).isSome = true then some ((atD es k).getD x) else none
  | _, _, _ => none
def gGetD (go gk gx : Md D) : Md D := fun ρ => (go ρ).bind fun p => (gk p.2).bind fun q => (gx q.2).bind fun r => (getG p.1 q.1 r.1).bind fun z => some (z, r.2)
theorem de_getD {ce : Expr} {go gk gx : Md D} (he : PE X ce (tMD X (rGetD X) (tD (cxK X) go) (tCons (tD (cxK X) gk) (tCons (tD (cxK X) gx) tNil)))) : DE X ce (gGetD go gk gx) :=
  pe_imp he fun σ H Q q => by
    obtain ⟨F, ρ, d, ρ', s, eg, k⟩ := q
    obtain ⟨⟨o, ρ1⟩, e1, eg⟩ := bind_some eg
    obtain ⟨⟨dk, ρ2⟩, e2, eg⟩ := bind_some eg
    obtain ⟨⟨dx, ρ3⟩, e3, eg⟩ := bind_some eg
    obtain ⟨z, e4, eg⟩ := bind_some eg
    cases eg
    obtain ⟨es, rfl⟩ : ∃ es, o = .dict es := by cases o <;> first | exact ⟨_, rfl⟩ | cases e4
    have e5 : (if keysTup es = true ∧ keyTup dk = true ∧ (nkD dk).isSome = true then some ((atD es dk).getD dx) else none) = some d := e4
    split at e5
    · rename_i ok
      cases e5
      obtain ⟨kk, hkk⟩ := Option.isSome_iff_exists.mp ok.2.2
      refine ⟨F, ρ, _, ρ1, s, e1, fun v F1 H1 p1 s1 r1 => ?_⟩
      obtain ⟨a, rfl, hD⟩ := rp_dicAt s1.sub r1 ok.1
      refine ⟨⟨a, F1, es, rfl, s1.sub, hD⟩, F1, ρ1, dk, ρ2, s1, e2, fun u F2 H2 p2 s2 r2 => ⟨F2, ρ2, dx, ρ3, s2, e3, fun w F3 H3 p3 s3 r3 => ?_⟩⟩
      obtain ⟨ka, rfl⟩ := rp_ref (k := kk) r2 ok.2.1
      obtain ⟨b, eb, hD3⟩ := rp_dicAt s3.sub (dp_mono (p2.ff.trans p3.ff) _ _ r1) ok.1
      cases eb
      exact ⟨a, ka, F3, es, dk, dx, kk, w, rfl, rfl, s3.sub, hD3, hkk, dp_mono p3.ff _ _ r2, r3, fun y hy => k y F3 H3 (p1.trans (p2.trans p3)) s3 hy⟩
    · cases e5
/-- l.index(x) -/
def ixOf (d : D) : List D → Nat → Option Nat
  | [], _ => none
  | x :: xs, i => if PyData.eqv x d = true then some i else ixOf d xs (i + 1)
theorem ixOf_some {d : D} : ∀ {xs : List D} {i j : Nat}, ixOf d xs i = some j → i ≤ j ∧ (∃ z, xs[j - i]? = some z ∧ PyData.eqv z d = true) ∧ ∀ m z', m < j - i → xs[m]? = some z' → PyData.eqv z' d = false
  | [], _, _, h => by cases h
  | x :: xs, i, j, h => by
    unfold ixOf at h
    split at h
    · rename_i hx
      cases h
      rw [Nat.sub_self]
      exact ⟨Nat.le_refl _, ⟨x, rfl, hx⟩, fun m _ hm => by omega⟩
    · rename_i hx
      obtain ⟨h1, ⟨z, h2, h3⟩, h4⟩ := ixOf_some h
      have e : j - i = (j - (i + 1)) + 1 := by omega
      rw [e]
      refine ⟨by omega, ⟨z, h2, h3⟩, fun m z' hm hz => ?_⟩
      cases m with
      | zero =>
        cases hz
        simpa using hx
      | succ m => exact h4 m z' (by omega) hz
def indF : D → D → Option D
  | .list xs, d => if SeqAt.shaped (.list xs) = true ∧ SeqAt.shaped d = true then (ixOf d xs 0).bind fun j => some (.int (j : Nat)) else none
  | _, _ => none
def gInd (go gx : Md D) : Md D := fun ρ => (go ρ).bind fun p => (gx p.2).bind fun q => (indF p.1 q.1).bind fun z => some (z, q.2)
theorem de_ind {ce : Expr} {go gx : Md D} (he : PE X ce (tBM (cxK X) "list" (rIndexD X.K) (tD (cxK X) go) (tCons (tD (cxK X) gx) tNil))) : DE X ce (gInd go gx) :=
  pe_imp he fun σ H Q q => by
    obtain ⟨F, ρ, d, ρ', s, eg, k⟩ := q
    obtain ⟨⟨o, ρ1⟩, e1, eg⟩ := bind_some eg
    obtain ⟨⟨dx, ρ2⟩, e2, eg⟩ := bind_some eg
    obtain ⟨z, e4, eg⟩ := bind_some eg
    cases eg
    obtain ⟨xs, rfl⟩ : ∃ xs, o = .list xs := by cases o <;> first | exact ⟨_, rfl⟩ | cases e4
    have e5 : (if SeqAt.shaped (.list xs) = true ∧ SeqAt.shaped dx = true then (ixOf dx xs 0).bind fun j => some (PyData.int (j : Nat)) else none) = some d := e4
    split at e5
    · rename_i ok
      obtain ⟨j, e6, e8⟩ := bind_some e5
      cases e8
      obtain ⟨_, ⟨zz, i1, i2⟩, i3⟩ := ixOf_some e6
      rw [Nat.sub_zero] at i1 i3
      refine ⟨F, ρ, _, ρ1, s, e1, fun v F1 H1 p1 s1 r1 => ?_⟩
      have r1' := r1
      cases r1' with
      | @lst a vs _ hs hr =>
        refine ⟨.inl ⟨rfl, vs, s1.sub.seq hs⟩, F1, ρ1, dx, ρ2, s1, e2, fun w F2 H2 p2 s2 r2 => ?_⟩
        have rl : Rp (cxK X) F2 (.ref a) (.list xs) := dp_mono p2.ff _ _ r1
        exact ⟨a, w, dx, xs, j, zz, rfl, rfl, rp_dp (dp_mono s2.sub _ _ rl) (SeqAt.canLay_of_shaped ok.1), rp_dp (dp_mono s2.sub _ _ r2) (SeqAt.canLay_of_shaped ok.2), ok.1, ok.2, i1, i2, i3, k _ F2 H2 (p1.trans p2) s2 (.int _)⟩
    · cases e5
/-- what is never reached -/
def sFail : Sd := fun _ => none
theorem ds_fail {st : Stmt} : DS X st sFail := ⟨fun pins s σ H E I q => by
  obtain ⟨F, ρ, f, ρ', _, eg, _⟩ := q
  cases eg⟩
end
end Dn
set_option maxHeartbeats 2000000
/-! a comprehension over a list of one's own, which stays one's own -/
namespace Dn
open PySem PySem.Spec PyProof.Rows L2 DnSo
def lOwnD : Option (Option Cell) → Option (List D)
  | some (some (.own _ (.list ds))) => some ds
  | _ => none
theorem lOwnD_some {o : Option (Option Cell)} {ds : List D} (h : lOwnD o = some ds) : ∃ b, o = some (some (.own b (.list ds))) := by
  unfold lOwnD at h
  split at h
  · cases h
    exact ⟨_, rfl⟩
  · cases h
def lcW (i0 : Nat) (vs : List Nat) (gt : D → Env → Option Env) (gc : Md Bool) (ge : Md D) : Nat → Nat → Env → Option (List D × Env)
  | 0, j, ρ => (lOwnD ρ[i0]?).bind fun ds => if ds.length ≤ j then some ([], ρ) else none
  | n + 1, j, ρ => (lOwnD ρ[i0]?).bind fun ds => match ds[j]? with
    | none => some ([], ρ)
    | some d => (gt d ρ).bind fun ρ1 => (gc ρ1).bind fun p => if p.1 = true then (ge p.2).bind fun q => (lcW i0 vs gt gc ge n (j + 1) (wipeE q.2 vs)).bind fun r => some (q.1 :: r.1, r.2) else lcW i0 vs gt gc ge n (j + 1) (wipeE p.2 vs)
def gLcW (i0 : Nat) (vs : List Nat) (gt : D → Env → Option Env) (gc : Md Bool) (ge : Md D) : Md D := fun ρ => (lOwnD ρ[i0]?).bind fun ds => if ds.length ≤ 16777216 ∧ vs.all (notOwn ρ) = true ∧ i0 ∉ vs then
  (lcW i0 vs gt gc ge ds.length 0 (wipeE ρ vs)).bind fun r => some (.list r.1, backE ρ vs r.2) else none
section
variable {X : Cx}
theorem lcW_q {i0 : Nat} {vs is : List Nat} (hv : ∀ j ∈ is, j ∈ vs) {gt : D → Env → Option Env} {gc : Md Bool} {ge : Md D} {σ : L2.St} {H : Hp} {Q : VK} (q : tF (cxK X) (gLcW i0 vs gt gc ge) σ H Q) : tLc (iSeq (cxK X) (tVar i0)) (tDG (cxK X) is gt) (tDT (cxK X) gc) (tD (cxK X) ge) vs σ H Q := by
  obtain ⟨F1, ρ1, d, ρ', s1, eg, k⟩ := q
  obtain ⟨ds, e1, eg1⟩ := bind_some eg
  split at eg1
  · rename_i hl
    obtain ⟨⟨rs, ρe⟩, e2, eg2⟩ := bind_some eg1
    cases eg2
    obtain ⟨b0, hown⟩ := lOwnD_some e1
    obtain ⟨a, ea, o0, _⟩ := st_owned s1 hown
    obtain ⟨_, xs0, hx0, rx0⟩ := own_lst o0
    refine ⟨.ref a, ea, .inr ⟨a, rfl, .inl ⟨⟨xs0, SqL.of hx0⟩, fun D hD => ?_⟩⟩⟩
    have hw := st_wipe s1 vs
    have hnv : ∀ i dd, ρ1[i]? = some (some (.own true dd)) → i ∉ vs := fun i dd e hi => not_own hl.2.1 hi e
    have p1w : Stp F1 σ ρ1 H F1 (wipe σ vs) (wipeE ρ1 vs) H := stp_wipe Stp.refl hnv
    have nD0 : ¬ Owns (wipe σ vs) (wipeE ρ1 vs) D := not_owns hw hD
    have eaw : (wipe σ vs)[i0]? = some (some (.ref a)) := by rw [wipe_out' hl.2.2]; exact ea
    have lst_at : ∀ {Fi : Hp} {Hi : Hp} {ρi : Env} {ds' : List PyData}, St (cxK X) Fi Hi (wipe σ vs) ρi → lOwnD ρi[i0]? = some ds' → ∃ xs, Hi a = some (.lst xs) ∧ RpAll (cxK X) Fi xs ds' := fun {Fi Hi ρi ds'} si h => by
      obtain ⟨b, hb⟩ := lOwnD_some h
      obtain ⟨a', ea', o', _⟩ := st_owned si hb
      rw [eaw] at ea'
      cases ea'
      obtain ⟨_, xs, hx, rx⟩ := own_lst o'
      exact ⟨xs, hx, rx⟩
    refine ⟨fun i m Hi => ∃ Fi ρi acc as rr, m + i = ds.length ∧ Stp F1 σ ρ1 H Fi (wipe σ vs) ρi Hi ∧ St (cxK X) Fi Hi (wipe σ vs) ρi ∧ lcW i0 vs gt gc ge m i ρi = some (rr, ρe) ∧ as ++ rr = rs ∧ (Fi D = none ∧ ¬ Owns (wipe σ vs) ρi D) ∧ Hi D = some (.lst acc) ∧ RpAll (cxK X) Fi acc as ∧ as.length ≤ i,
      ⟨ds.length, F1, wipeE ρ1 vs, [], [], rs, by simp, p1w.trans ((Grow.own s1.sub hD).stp _ _), hw.grow (Grow.own s1.sub hD), e2, by simp, ⟨none_sub s1.sub hD, nD0⟩, upd_same, .nil, by simp⟩, ?_⟩
    rintro i m Hi ⟨Fi, ρi, acc, as, rr, hmi, pi, si, ei, er, ⟨fD, nD⟩, hDi, ra, la⟩
    have stop : ∀ {ds' : List PyData}, lOwnD ρi[i0]? = some ds' → ds'.length ≤ i → (Itl (cxK X).K a).stop i Hi := fun {ds'} h hle => by
      obtain ⟨xs, hx, rx⟩ := lst_at si h
      exact ⟨xs, SqL.of hx, by rw [da_len rx]; exact hle⟩
    have endd : rr = [] → ρe = ρi → Q (.ref D) Hi := fun h1 h2 => by
      subst h1 h2
      rw [List.append_nil] at er
      subst er
      obtain ⟨pb, sb⟩ := stp_back pi (by rw [si.len, wipe_length, s1.len]) hl.2.1
      exact k D Fi Hi pb (st_back s1 si pi.ff hl.2.1) ⟨fD, .inl ⟨acc, as, rfl, hDi, ra⟩⟩ (fun z => nD (sb D z)) hD
    cases m with
    | zero =>
      obtain ⟨ds', h1, h2⟩ := bind_some ei
      split at h2
      · rename_i hle
        cases h2
        exact .inl ⟨stop h1 hle, endd rfl rfl⟩
      · cases h2
    | succ n =>
      obtain ⟨ds', h1, h2⟩ := bind_some ei
      cases hd : ds'[i]? with
      | none =>
        rw [hd] at h2
        cases h2
        exact .inl ⟨stop h1 (List.getElem?_eq_none_iff.mp hd), endd rfl rfl⟩
      | some d0 =>
        rw [hd] at h2
        obtain ⟨ρ2, e3, ei1⟩ := bind_some h2
        obtain ⟨⟨b, ρ3⟩, e4, ei2⟩ := bind_some ei1
        obtain ⟨xs, hx, rx⟩ := lst_at si h1
        obtain ⟨v0, hv0, rv0⟩ := da_at rx hd
        refine .inr ⟨⟨xs, v0, SqL.of hx, hv0⟩, fun H' => ∃ F' ρ'' acc' as' rr', Stp F1 σ ρ1 H F' (wipe σ vs) ρ'' H' ∧ St (cxK X) F' H' (wipe σ vs) ρ'' ∧ lcW i0 vs gt gc ge n (i + 1) ρ'' = some (rr', ρe) ∧ as' ++ rr' = rs ∧ (F' D = none ∧ ¬ Owns (wipe σ vs) ρ'' D) ∧ H' D = some (.lst acc') ∧ RpAll (cxK X) F' acc' as' ∧ as'.length ≤ i + 1,
          fun H' ⟨F', ρ'', acc', as', rr', z1, z2, z3, z4, z5, z6, z7, z8⟩ => ⟨n, by omega, F', ρ'', acc', as', rr', by omega, z1, z2, z3, z4, z5, z6, z7, z8⟩, fun v H' hy => ?_⟩
        obtain ⟨rfl, hy2⟩ := hy
        have ev := (hy2 xs (SqL.of hx)).symm.trans hv0
        cases ev
        refine ⟨Fi, ρi, d0, ρ2, si, rv0, e3, fun σ2 F2 H2 p2 s2 w2 => ?_⟩
        have ew : wipe σ2 vs = wipe σ vs := wipe_eq w2.2 hv (w2.1.trans (wipe_length σ vs))
        refine ⟨ew, F2, ρ2, b, ρ3, s2, e4, fun F3 H3 p3 s3 => ?_⟩
        have q3 := p2.trans p3
        have fin : ∀ (F4 : Hp) (ρ4 : Env) (H4 : Hp), Stp Fi (wipe σ vs) ρi H' F4 σ2 ρ4 H4 → St (cxK X) F4 H4 σ2 ρ4 → H4 D = some (.lst acc) ∧ F4 D = none ∧ ¬ Owns (wipe σ vs) (wipeE ρ4 vs) D ∧ Stp F1 σ ρ1 H F4 (wipe σ vs) (wipeE ρ4 vs) H4 ∧ St (cxK X) F4 H4 (wipe σ vs) (wipeE ρ4 vs) := fun F4 ρ4 H4 q s4 => by
          obtain ⟨h1, h2⟩ := q.keep D _ hDi nD
          have h3 := stp_wipe (pi.trans q) hnv
          have h4 := st_wipe s4 vs
          rw [ew] at h3 h4
          refine ⟨h1, h2.trans fD, fun z => ?_, h3, h4⟩
          obtain ⟨j, f, dd, z1, z2⟩ := z
          obtain ⟨z3, z4⟩ := wipeE_cell z1
          rw [← ew, wipe_out' z4] at z2
          rcases q.fresh D ⟨j, f, dd, z3, z2⟩ with y | y
          · exact nD y
          · rw [hDi] at y
            cases y
        cases b with
        | true =>
          rw [if_pos rfl] at ei2
          obtain ⟨⟨y, ρ4⟩, e5, ei3⟩ := bind_some ei2
          obtain ⟨⟨r, ρ5⟩, e6, ei4⟩ := bind_some ei3
          cases ei4
          refine ⟨F3, ρ3, y, ρ4, s3, e5, fun u F4 H4 p4 s4 r4 => ?_⟩
          have q4 := q3.trans p4
          obtain ⟨h1, h2, h3, h4, h5⟩ := fin F4 ρ4 H4 q4 s4
          refine ⟨acc, h1, by rw [line_eq, da_len ra]; omega, F4, wipeE ρ4 vs, acc ++ [u], as ++ [y], r, stp_side h4 hD, st_side h5 h2 h3, e6, by rw [List.append_assoc]; exact er, ⟨h2, h3⟩, upd_same, da_app (dpAll_mono q4.ff _ _ ra) (.cons r4 .nil), by rw [List.length_append]; simpa using la⟩
        | false =>
          rw [if_neg Bool.false_ne_true] at ei2
          obtain ⟨h1, h2, h3, h4, h5⟩ := fin F3 ρ3 H3 q3 s3
          exact ⟨F3, wipeE ρ3 vs, acc, as, rr, h4, h5, ei2, er, ⟨h2, h3⟩, h1, dpAll_mono q3.ff _ _ ra, by omega⟩
  · cases eg1
theorem df_lcW {e : Expr} (i0 : Nat) {vs is : List Nat} {gt : D → Env → Option Env} {gc : Md Bool} {ge : Md D} (h : PE X e (tLc (iSeq (cxK X) (tVar i0)) (tDG (cxK X) is gt) (tDT (cxK X) gc) (tD (cxK X) ge) vs)) (hv : ∀ j ∈ is, j ∈ vs := by decide) : DF X e (gLcW i0 vs gt gc ge) := pe_imp h fun _ _ _ q => lcW_q hv q
theorem ds_lcW {st : Stmt} {i : Nat} (i0 : Nat) {vs is : List Nat} {gt : D → Env → Option Env} {gc : Md Bool} {ge : Md D} (h : PS X st (fun E σ H => tLc (iSeq (cxK X) (tVar i0)) (tDG (cxK X) is gt) (tDT (cxK X) gc) (tD (cxK X) ge) vs σ H fun v H1 => E.nx (σ.set i (some v)) H1)) (hv : ∀ j ∈ is, j ∈ vs := by decide) : DS X st (sOwn i (gLcW i0 vs gt gc ge)) :=
  ps_imp h fun E σ H q => by
    obtain ⟨F, ρ, f, ρ', s, eg, k⟩ := q
    obtain ⟨⟨d, ρ1⟩, e1, eg1⟩ := bind_some eg
    obtain ⟨r, e2, eg2⟩ := bind_some eg1
    cases eg2
    refine lcW_q hv ⟨F, ρ, d, ρ1, s, e1, fun a F1 H1 p1 s1 o no hn => k _ F1 H1 (stp_set p1 e2 fun _ _ b _ z => ?_) (st_set s1 e2 ⟨a, rfl, o⟩ fun f _ b z1 z => ?_)⟩
    · cases z
      exact hn
    · cases z
      cases z1
      exact ⟨rfl, no⟩
end
end Dn
set_option maxHeartbeats 2000000
/-! a, b, c = x, y, z -/
namespace Dn
open PySem PySem.Spec PyProof.Rows L2 DnSo
def three : List D → Option (D × D × D)
  | [a, b, c] => some (a, b, c)
  | _ => none
def sPar3 (i j l : Nat) (gs : Md (List D)) : Sd := fun ρ => (gs ρ).bind fun p => (three p.1).bind fun t => (setC i (.val t.1) p.2).bind fun ρ1 => (setC j (.val t.2.1) ρ1).bind fun ρ2 => (setC l (.val t.2.2) ρ2).bind fun ρ3 => some (.nx, ρ3)
section
variable {X : Cx} {pos : Pos}
theorem ds_par3 {i j l : Nat} {x y z : Str} {a b c : Expr} {gs : Md (List D)} {px py pz pt : Pos} {kt k2 pt2} (hc : X.calm = true) (hN : X.N.Nodup) (ha : DA X [a, b, c] gs) (hi : X.N[i]? = some x := by rfl) (hj : X.N[j]? = some y := by rfl) (hl : X.N[l]? = some z := by rfl) (hij : i ≠ j := by decide) (hil : i ≠ l := by decide) (hjl : j ≠ l := by decide)
    (hx : X.env.scope.names.lookup x = some .local := by rfl) (hy : X.env.scope.names.lookup y = some .local := by rfl) (hz : X.env.scope.names.lookup z = some .local := by rfl)
    (hw : swappedStores [.Tuple [.Name x px, .Name y py, .Name z pz] kt pt] (.Tuple [a, b, c] k2 pt2) X.env = pure (some [x, y, z]) := by rfl)
    (hs : swapsWithSole [.Tuple [.Name x px, .Name y py, .Name z pz] kt pt] (.Tuple [a, b, c] k2 pt2) pos.line X.env = pure false := by rfl) :
    DS X (.Assign [.Tuple [.Name x px, .Name y py, .Name z pz] kt pt] (.Tuple [a, b, c] k2 pt2) pos) (sPar3 i j l gs) :=
  ps_imp (ps_par3 hc hN hi hj hl hij hil hjl hx hy hz ha hw hs) fun E σ H q => by
    obtain ⟨F, ρ, f, ρ', s, eg, k⟩ := q
    obtain ⟨⟨ds, ρ0⟩, e1, eg⟩ := bind_some eg
    obtain ⟨⟨d1, d2, d3⟩, e2, eg⟩ := bind_some eg
    obtain ⟨ρ1, e3, eg⟩ := bind_some eg
    obtain ⟨ρ2, e4, eg⟩ := bind_some eg
    obtain ⟨ρ3, e5, eg⟩ := bind_some eg
    cases eg
    have eds : ds = [d1, d2, d3] := by
      unfold three at e2
      split at e2
      · cases e2
        assumption
      · cases e2
    subst eds
    refine ⟨F, ρ, _, ρ0, s, e1, fun vs F1 H1 p1 s1 r1 => ?_⟩
    cases r1 with
    | @cons v1 _ _ _ r1 r2 =>
      cases r2 with
      | @cons v2 _ _ _ r2 r3 =>
        cases r3 with
        | @cons v3 _ _ _ r3 r4 =>
          cases r4
          have t1 := st_set (v := v1) s1 e3 ⟨v1, rfl, r1⟩ fun _ _ _ z => nomatch z
          have t2 := st_set (v := v2) t1 e4 ⟨v2, rfl, r2⟩ fun _ _ _ z => nomatch z
          have t3 := st_set (v := v3) t2 e5 ⟨v3, rfl, r3⟩ fun _ _ _ z => nomatch z
          have q1 := stp_set (v := v1) p1 e3 fun _ _ _ z => nomatch z
          have q2 := stp_set (v := v2) q1 e4 fun _ _ _ z => nomatch z
          have q3 := stp_set (v := v3) q2 e5 fun _ _ _ z => nomatch z
          exact ⟨v1, v2, v3, rfl, k _ F1 H1 q3 t3⟩
end
end Dn
set_option maxHeartbeats 2000000
/-! xs + ys: a new list of one's own -/
namespace Dn
open PySem PySem.Spec PyProof.Rows L2 DnSo
def addL2 : D → D → Option D
  | .list xs, .list ys => if xs.length + ys.length ≤ 16777216 then some (.list (xs ++ ys)) else none
  | _, _ => none
def rF2 (K : Kx) (f : D → D → Option D) : R2 := fun x y H Q => ∃ (F : Hp) (d e r : D), Same F H ∧ Rp K F x d ∧ Rp K F y e ∧ f d e = some r ∧ ∀ a F' H', Grow F H F' H' → OwnAt K F' H' a r → H a = none → Q (.ref a) H'
section
variable {X : Cx} {a b : Expr} {pos : Pos}
theorem op_addL : OpR X (binaryOp .Add) (rF2 (cxK X) addL2) := by
  intro pins s σ H x y v u Q I rx ry h
  obtain ⟨F, d, e, r, sf, hd, he, ef, k⟩ := h
  unfold addL2 at ef
  split at ef
  · split at ef
    · rename_i as bs hl
      cases ef
      cases hd with
      | lst h1 d1 =>
        cases he with
        | lst h2 d2 =>
          cases rx
          cases ry
          rename_i l xs b ys
          obtain ⟨its, r1, p1, z1⟩ := I.list (sf.seq h1)
          obtain ⟨its2, r2, p2, z2⟩ := I.list (sf.seq h2)
          obtain ⟨o1, n1, g1, c1, q1, t1⟩ := p1
          obtain ⟨o2, n2, g2, c2, q2, t2⟩ := p2
          obtain ⟨cls, dd, data, sl⟩ := o1
          obtain ⟨cls2, dd2, data2, sl2⟩ := o2
          simp only at c1 q1 t1 c2 q2 t2
          subst c1 q1 t1 c2 q2 t2
          have hsz : xs.length + ys.length ≤ sizeLine := by rw [line_eq, da_len d1, da_len d2]; exact hl
          refine concat_meets ⟨_, g1, rfl⟩ ⟨_, g2, rfl⟩ noFill_list_add seq_list_add PySem.F.slot_list_add PySem.F.entry_list_add (PySem.F.args_list_add_2 _ _)
            (list_addW l b its.toArray its2.toArray n1 n2 none none sl sl2 (by simpa [← r1.length, ← r2.length] using hsz)) ⟨g1, g2, ?_⟩
          have ea : its.toArray ++ its2.toArray = (its ++ its2).toArray := by simp
          rw [ea]
          have hp : H s.heap.objs.size = none := I.fresh
          have gr : Grow F H F (upd H s.heap.objs.size (.lst (xs ++ ys))) := Grow.own sf hp
          exact ⟨.ref _, _, I.lnew (t' := s.toks) (r1.append r2) (by rw [List.length_append]; exact hsz), rfl, k _ _ _ gr (own_new sf hp (da_app d1 d2)) hp⟩
    · cases ef
  · cases ef
theorem df_addB {ga gb : Md D} (ha : DE X a ga) (hb : DE X b gb) : DF X (.BinOp a .Add b pos) (gBin addL2 ga gb) :=
  pe_imp (pe_op op_addL ha hb) fun σ H Q q => by
    obtain ⟨F, ρ, d, ρ', s, eg, k⟩ := q
    obtain ⟨⟨x, ρ1⟩, e1, eg⟩ := bind_some eg
    obtain ⟨⟨y, ρ2⟩, e2, eg⟩ := bind_some eg
    obtain ⟨z, e3, eg⟩ := bind_some eg
    cases eg
    exact ⟨F, ρ, x, ρ1, s, e1, fun v F1 H1 p1 s1 r1 => ⟨F1, ρ1, y, ρ2, s1, e2, fun u F2 H2 p2 s2 r2 => ⟨F2, x, y, _, s2.sub, dp_mono p2.ff _ _ r1, r2, e3, fun w F3 H3 gr o hn =>
      k w F3 H3 (p1.trans (p2.trans (gr.stp σ ρ2))) (s2.grow gr) o (not_owns s2 hn) ((p1.trans p2).none hn)⟩⟩⟩
end
end Dn
set_option maxHeartbeats 2000000
/-! what a denotation comes to: words for reckoning -/
namespace Dm
open PySem Dn
abbrev Env := Dn.Env

def Wo {α : Type} (o : Option α) (Q : α → Prop) : Prop := ∃ a, o = some a ∧ Q a
def Wm {α : Type} (g : Md α) (ρ : Env) (Q : α → Env → Prop) : Prop := Wo (g ρ) fun p => Q p.1 p.2
def Ws (g : Sd) (ρ : Env) (Q : Fl → Env → Prop) : Prop := Wo (g ρ) fun p => Q p.1 p.2

section
variable {α β : Type} {ρ : Env}
theorem wo_some {a : α} {Q : α → Prop} : Wo (some a) Q ↔ Q a := ⟨fun ⟨_, e, q⟩ => by cases e; exact q, fun q => ⟨a, rfl, q⟩⟩
theorem wo_none {Q : α → Prop} : Wo (none : Option α) Q ↔ False := ⟨fun ⟨_, e, _⟩ => (by cases e), False.elim⟩
theorem wo_bind {o : Option α} {f : α → Option β} {Q : β → Prop} : Wo (o.bind f) Q ↔ Wo o fun a => Wo (f a) Q := by
  cases o with
  | none => exact ⟨fun ⟨_, e, _⟩ => (by cases e), fun ⟨_, e, _⟩ => (by cases e)⟩
  | some a => exact ⟨fun h => ⟨a, rfl, h⟩, fun ⟨_, e, h⟩ => by cases e; exact h⟩
theorem wo_mono {o : Option α} {Q Q' : α → Prop} (h : Wo o Q) (i : ∀ a, Q a → Q' a) : Wo o Q' := let ⟨a, e, q⟩ := h; ⟨a, e, i a q⟩
theorem wo_ite {c : Prop} [Decidable c] {a b : Option α} {Q : α → Prop} : Wo (if c then a else b) Q ↔ if c then Wo a Q else Wo b Q := by
  by_cases h : c
  · rw [if_pos h, if_pos h]
  · rw [if_neg h, if_neg h]
theorem wo_of {o : Option α} {a : α} {Q : α → Prop} (e : o = some a) (q : Q a) : Wo o Q := ⟨a, e, q⟩
theorem wo_eq {o : Option α} {a : α} : Wo o (fun x => x = a) ↔ o = some a := ⟨fun ⟨_, e, q⟩ => by rw [e, q], fun h => ⟨a, h, rfl⟩⟩

def valOf : Option (Option Cell) → Option D
  | some (some (.val d)) => some d
  | _ => none
theorem valOf_val {d : D} : valOf (some (some (.val d))) = some d := rfl
/-- own lists that are looked at -/
def frzOf (i : Nat) (ρ : Env) : Option (Option Cell) → Option (D × Env)
  | some (some (.val d)) => some (d, ρ)
  | some (some (.own false d)) => some (d, ρ.set i (some (.val d)))
  | _ => none
theorem frz_val {i : Nat} {d : D} : frzOf i ρ (some (some (.val d))) = some (d, ρ) := rfl
theorem frz_own {i : Nat} {d : D} : frzOf i ρ (some (some (.own false d))) = some (d, ρ.set i (some (.val d))) := rfl
def cOwn : Option (Option Cell) → Option (Bool × D)
  | some (some (.own b d)) => some (b, d)
  | _ => none
theorem cOwn_own {b : Bool} {d : D} : cOwn (some (some (.own b d))) = some (b, d) := rfl
def peekOf : Option (Option Cell) → Option D
  | some (some (.val d)) => some d
  | some (some (.own _ d)) => some d
  | _ => none
theorem peek_val {d : D} : peekOf (some (some (.val d))) = some d := rfl
theorem peek_own {b : Bool} {d : D} : peekOf (some (some (.own b d))) = some d := rfl
def canSet : Option (Option Cell) → Option Unit
  | some (some (.own true _)) => none
  | some _ => some ()
  | none => none
theorem canSet_none : canSet (some none) = some () := rfl
theorem canSet_val {d : D} : canSet (some (some (.val d))) = some () := rfl
theorem canSet_own {d : D} : canSet (some (some (.own false d))) = some () := rfl
def lstOf : D → Option (List D)
  | .list ds => some ds
  | _ => none
theorem lstOf_list {ds : List D} : lstOf (.list ds) = some ds := rfl

variable {Q : D → Env → Prop}
theorem wm_c {d : D} : Wm (gC d) ρ Q ↔ Q d ρ := wo_some
theorem wm_var {i : Nat} : Wm (gVar i) ρ Q ↔ Wo (valOf ρ[i]?) fun d => Q d ρ := by
  unfold Wm gVar
  split
  · rename_i d h
    rw [h, wo_some, valOf_val, wo_some]
  · rename_i h
    have e : valOf ρ[i]? = none := by
      unfold valOf
      split
      · rename_i d z
        exact absurd z (h d)
      · rfl
    rw [e, wo_none, wo_none]
theorem wm_frz {i : Nat} : Wm (gFrz i) ρ Q ↔ Wo (frzOf i ρ ρ[i]?) fun p => Q p.1 p.2 := by
  unfold Wm gFrz frzOf
  exact Iff.rfl
theorem wm_bin {f : D → D → Option D} {a b : Md D} : Wm (gBin f a b) ρ Q ↔ Wm a ρ fun x ρ1 => Wm b ρ1 fun y ρ2 => Wo (f x y) fun r => Q r ρ2 := by
  unfold Wm gBin
  simp only [wo_bind, wo_some]
theorem wm_un {f : D → Option D} {a : Md D} : Wm (gUn f a) ρ Q ↔ Wm a ρ fun x ρ1 => Wo (f x) fun r => Q r ρ1 := by
  unfold Wm gUn
  simp only [wo_bind, wo_some]
theorem wm_tst {a : Md D} {Q : Bool → Env → Prop} : Wm (gTst a) ρ Q ↔ Wm a ρ fun x ρ1 => Wo (bOf x) fun b => Q b ρ1 := by
  unfold Wm gTst
  simp only [wo_bind, wo_some]
theorem wm_tru {a : Md D} {Q : Bool → Env → Prop} : Wm (gTru a) ρ Q ↔ Wm a ρ fun x ρ1 => Wo (truT x) fun b => Q b ρ1 := by
  unfold Wm gTru
  simp only [wo_bind, wo_some]
theorem wm_truB {i : Nat} {Q : Bool → Env → Prop} : Wm (gTruB i) ρ Q ↔ Wo (peekOf ρ[i]?) fun d => Wo (truT d) fun b => Q b ρ := by
  unfold Wm gTruB
  simp only [wo_bind, wo_some]
  exact Iff.rfl
theorem wm_chain {f f' : D → D → Option D} {a b c : Md D} : Wm (gChain f f' a b c) ρ Q ↔ Wm a ρ fun x ρ1 => Wm b ρ1 fun y ρ2 => Wo (f x y) fun r => Wo (bOf r) fun t =>
    if t = true then Wm c ρ2 fun z ρ3 => Wo (f' y z) fun r => Q r ρ3 else Q (.bool false) ρ2 := by
  unfold Wm gChain
  simp only [wo_bind, wo_some, wo_ite]
theorem wm_and {a b : Md Bool} {Q : Bool → Env → Prop} : Wm (gAnd a b) ρ Q ↔ Wm a ρ fun x ρ1 => if x = true then Wm b ρ1 Q else Q false ρ1 := by
  unfold Wm gAnd
  simp only [wo_bind, wo_some, wo_ite]
theorem wm_or {a b : Md Bool} {Q : Bool → Env → Prop} : Wm (gOr a b) ρ Q ↔ Wm a ρ fun x ρ1 => if x = true then Q true ρ1 else Wm b ρ1 Q := by
  unfold Wm gOr
  simp only [wo_bind, wo_some, wo_ite]
theorem wm_not {a : Md Bool} {Q : Bool → Env → Prop} : Wm (gNot a) ρ Q ↔ Wm a ρ fun x ρ1 => Q (!x) ρ1 := by
  unfold Wm gNot
  simp only [wo_bind, wo_some]
theorem wm_andV {a b : Md D} : Wm (gAndV a b) ρ Q ↔ Wm a ρ fun x ρ1 => Wo (bOf x) fun t => if t = true then Wm b ρ1 Q else Q (.bool false) ρ1 := by
  unfold Wm gAndV
  simp only [wo_bind, wo_some, wo_ite]
theorem wm_orV {a b : Md D} : Wm (gOrV a b) ρ Q ↔ Wm a ρ fun x ρ1 => Wo (bOf x) fun t => if t = true then Q (.bool true) ρ1 else Wm b ρ1 Q := by
  unfold Wm gOrV
  simp only [wo_bind, wo_some, wo_ite]
theorem wm_notV {a : Md D} : Wm (gNotV a) ρ Q ↔ Wm a ρ fun x ρ1 => Wo (bOf x) fun t => Q (.bool !t) ρ1 := by
  unfold Wm gNotV
  simp only [wo_bind, wo_some]
theorem wm_ifE {c : Md Bool} {a b : Md D} : Wm (gIfE c a b) ρ Q ↔ Wm c ρ fun x ρ1 => if x = true then Wm a ρ1 Q else Wm b ρ1 Q := by
  unfold Wm gIfE
  simp only [wo_bind, wo_some, wo_ite]
theorem wm_nil {Q : List D → Env → Prop} : Wm gNil ρ Q ↔ Q [] ρ := wo_some
theorem wm_cons {a : Md D} {b : Md (List D)} {Q : List D → Env → Prop} : Wm (gCons a b) ρ Q ↔ Wm a ρ fun x ρ1 => Wm b ρ1 fun y ρ2 => Q (x :: y) ρ2 := by
  unfold Wm gCons
  simp only [wo_bind, wo_some]
theorem wm_app {f : List D → Option D} {a : Md (List D)} : Wm (gApp f a) ρ Q ↔ Wm a ρ fun x ρ1 => Wo (f x) fun r => Q r ρ1 := by
  unfold Wm gApp
  simp only [wo_bind, wo_some]
theorem wm_noP {Q : Option Int → Env → Prop} : Wm gNoP ρ Q ↔ Q none ρ := wo_some
theorem wm_part {a : Md D} {Q : Option Int → Env → Prop} : Wm (gPart a) ρ Q ↔ Wm a ρ fun x ρ1 => Wo (iOf x) fun i => Q (some i) ρ1 := by
  unfold Wm gPart
  simp only [wo_bind, wo_some]
theorem wm_sl {a : Md D} {l h : Md (Option Int)} : Wm (gSl a l h) ρ Q ↔ Wm a ρ fun x ρ1 => Wm l ρ1 fun i ρ2 => Wm h ρ2 fun j ρ3 => Wo (cutD x i j) fun r => Q r ρ3 := by
  unfold Wm gSl
  simp only [wo_bind, wo_some]
theorem wm_pk {i : Nat} {f : List D → Option D} : Wm (gPk i f) ρ Q ↔ Wo (peekOf ρ[i]?) fun d => Wo (f [d]) fun r => flatD r = true ∧ Q r ρ := by
  unfold Wm gPk
  simp only [wo_bind]
  refine Iff.of_eq (congrArg _ (funext fun d => congrArg _ (funext fun r => ?_)))
  rw [wo_ite, wo_some, wo_none]
  by_cases h : flatD r = true
  · rw [if_pos h]; simp [h]
  · rw [if_neg h]; simp [h]
def ownSt (i : Nat) (ρ : Env) : Prop := ∃ b d, ρ[i]? = some (some (.own b d))
theorem cOwn_some {o : Option (Option Cell)} {p : Bool × D} (h : cOwn o = some p) : o = some (some (.own p.1 p.2)) := by
  unfold cOwn at h
  split at h
  · cases h; rfl
  · cases h
theorem wm_io {i : Nat} {f : D → List D → Option (D × D)} {a : Md (List D)} : Wm (gCallIO i f a) ρ Q ↔ Wo (cOwn ρ[i]?) fun _ => Wm a ρ fun ds ρ1 => Wo (cOwn ρ1[i]?) fun c => Wo (f c.2 ds) fun r => Q r.1 (ρ1.set i (some (.own c.1 r.2))) := by
  unfold Wm gCallIO
  split
  · rename_i b d h
    rw [h, cOwn_own, wo_some, wo_bind]
    refine Iff.of_eq (congrArg _ (funext fun p => ?_))
    try dsimp only
    split
    · rename_i b1 d1 h1
      rw [h1, cOwn_own, wo_some, wo_bind]
      simp only [wo_some]
    · rename_i h1
      have e : cOwn p.2[i]? = none := by
        unfold cOwn
        split
        · rename_i b2 d2 z
          exact absurd z (h1 b2 d2)
        · rfl
      rw [e, wo_none, wo_none]
  · rename_i h
    have e : cOwn ρ[i]? = none := by
      unfold cOwn
      split
      · rename_i b2 d2 z
        exact absurd z (h b2 d2)
      · rfl
    rw [e, wo_none, wo_none]
theorem wm_ixB_val {i : Nat} {a : Md D} {d : D} (h : ρ[i]? = some (some (.val d))) : Wm (gIxB i a) ρ Q ↔ Wm a ρ fun x ρ1 => Wo (ixD d x) fun r => Q r ρ1 := by
  unfold Wm gIxB
  rw [h]
  simp only [wo_bind, wo_some]
theorem wm_ixB {i : Nat} {a : Md D} {b : Bool} {d : D} (h : ρ[i]? = some (some (.own b d))) : Wm (gIxB i a) ρ Q ↔ Wm a ρ fun x ρ1 => Wo (cOwn ρ1[i]?) fun c => Wo (ixD c.2 x) fun r => Q r ρ1 := by
  unfold Wm gIxB
  rw [h]
  simp only [wo_bind]
  refine Iff.of_eq (congrArg _ (funext fun p => ?_))
  try dsimp only
  split
  · rename_i b1 d1 h1
    rw [h1, cOwn_own, wo_some, wo_bind]
    simp only [wo_some]
  · rename_i h1
    have e : cOwn p.2[i]? = none := by
      unfold cOwn
      split
      · rename_i b2 d2 z
        exact absurd z (h1 b2 d2)
      · rfl
    rw [e, wo_none, wo_none]
def byCell (o : Option (Option Cell)) (p : D → Prop) (q : Prop) : Prop := match o with
  | some (some (.val d)) => p d
  | some (some (.own _ _)) => q
  | _ => False
theorem by_val {d : D} {p : D → Prop} {q : Prop} : byCell (some (some (.val d))) p q ↔ p d := Iff.rfl
theorem by_own {b : Bool} {d : D} {p : D → Prop} {q : Prop} : byCell (some (some (.own b d))) p q ↔ q := Iff.rfl
theorem wm_ix {i : Nat} {a : Md D} : Wm (gIxB i a) ρ Q ↔ byCell ρ[i]? (fun d => Wm a ρ fun x ρ1 => Wo (ixD d x) fun r => Q r ρ1) (Wm a ρ fun x ρ1 => Wo (cOwn ρ1[i]?) fun c => Wo (ixD c.2 x) fun r => Q r ρ1) := by
  cases h : ρ[i]? with
  | none =>
    unfold Wm gIxB
    rw [h, wo_none]
    exact Iff.rfl
  | some o =>
    cases o with
    | none =>
      unfold Wm gIxB
      rw [h, wo_none]
      exact Iff.rfl
    | some c =>
      cases c with
      | val d => exact wm_ixB_val h
      | own b d => exact wm_ixB h
theorem wm_inB {neg : Bool} {i : Nat} {a : Md D} : Wm (gInB neg i a) ρ Q ↔ Wm a ρ fun x ρ1 => Wo (peekOf ρ1[i]?) fun e => Wo (inT x e) fun b => Q (.bool (if neg = true then !b else b)) ρ1 := by
  unfold Wm gInB
  simp only [wo_bind, wo_some]
  exact Iff.rfl
theorem wm_true {Q : Bool → Env → Prop} : Wm gTrue ρ Q ↔ Q true ρ := wo_some
theorem wm_seq {a : Md D} {Q : List D → Env → Prop} : Wm (gSeq a) ρ Q ↔ Wm a ρ fun x ρ1 => Wo (seqOf x) fun ds => Q ds ρ1 := by
  unfold Wm gSeq
  simp only [wo_bind, wo_some]
def oneInt : List D → Option Int
  | [.int j] => if small62 j = true then some j else none
  | _ => none
theorem oneInt_int {j : Int} : oneInt [.int j] = if small62 j = true then some j else none := rfl
theorem wm_rng1 {a : Md (List D)} {Q : List D → Env → Prop} : Wm (gRng1 a) ρ Q ↔ Wm a ρ fun x ρ1 => Wo (oneInt x) fun j => Q (rngL 0 j.toNat) ρ1 := by
  unfold Wm gRng1
  rw [wo_bind]
  refine Iff.of_eq (congrArg _ (funext fun p => ?_))
  try dsimp only
  split
  · rename_i j e
    rw [e, oneInt_int, wo_ite, wo_ite, wo_some, wo_some, wo_none, wo_none]
  · rename_i h
    have e : oneInt p.1 = none := by
      unfold oneInt
      split
      · rename_i j z
        exact absurd z (h j)
      · rfl
    rw [e, wo_none, wo_none]
def twoInts : List D → Option (Int × Int)
  | [.int i, .int j] => if small62 i = true ∧ small62 j = true then some (i, j) else none
  | _ => none
theorem twoInts_int {i j : Int} : twoInts [.int i, .int j] = if small62 i = true ∧ small62 j = true then some (i, j) else none := rfl
theorem wm_rng2 {a : Md (List D)} {Q : List D → Env → Prop} : Wm (gRng2 a) ρ Q ↔ Wm a ρ fun x ρ1 => Wo (twoInts x) fun p => Q (rngL p.1 (p.2 - p.1).toNat) ρ1 := by
  unfold Wm gRng2
  rw [wo_bind]
  refine Iff.of_eq (congrArg _ (funext fun p => ?_))
  try dsimp only
  split
  · rename_i i j e
    rw [e, twoInts_int, wo_ite, wo_ite, wo_some, wo_some, wo_none, wo_none]
  · rename_i h
    have e : twoInts p.1 = none := by
      unfold twoInts
      split
      · rename_i i j z
        exact absurd z (h i j)
      · rfl
    rw [e, wo_none, wo_none]

/-! statements -/
def thenQ (t : Sd) (Q : Fl → Env → Prop) : Fl → Env → Prop
  | .nx, ρ => Ws t ρ Q
  | .ret d, ρ => Q (.ret d) ρ
  | .rof d, ρ => Q (.rof d) ρ
  | .brk, ρ => Q .brk ρ
  | .cnt, ρ => Q .cnt ρ
variable {R : Fl → Env → Prop}
theorem then_nx {t : Sd} : thenQ t R .nx ρ ↔ Ws t ρ R := Iff.rfl
theorem then_ret {t : Sd} {d : D} : thenQ t R (.ret d) ρ ↔ R (.ret d) ρ := Iff.rfl
theorem then_rof {t : Sd} {d : D} : thenQ t R (.rof d) ρ ↔ R (.rof d) ρ := Iff.rfl
theorem then_brk {t : Sd} : thenQ t R .brk ρ ↔ R .brk ρ := Iff.rfl
theorem then_cnt {t : Sd} : thenQ t R .cnt ρ ↔ R .cnt ρ := Iff.rfl
theorem ws_next : Ws sNext ρ R ↔ R .nx ρ := wo_some
theorem ws_brk : Ws sBrk ρ R ↔ R .brk ρ := wo_some
theorem ws_cnt : Ws sCnt ρ R ↔ R .cnt ρ := wo_some
theorem ws_seq {s t : Sd} : Ws (sSeq s t) ρ R ↔ Ws s ρ (thenQ t R) := by
  unfold Ws sSeq
  rw [wo_bind]
  refine Iff.of_eq (congrArg _ (funext fun p => ?_))
  try dsimp only
  obtain ⟨f, ρ1⟩ := p
  cases f with
  | nx => rfl
  | ret d => exact propext wo_some
  | rof d => exact propext wo_some
  | brk => exact propext wo_some
  | cnt => exact propext wo_some
theorem ws_if {g : Md Bool} {s t : Sd} : Ws (sIf g s t) ρ R ↔ Wm g ρ fun b ρ1 => if b = true then Ws s ρ1 R else Ws t ρ1 R := by
  unfold Ws Wm sIf
  simp only [wo_bind, wo_ite]
theorem ws_ret {g : Md D} : Ws (sRet g) ρ R ↔ Wm g ρ fun d ρ1 => R (.ret d) ρ1 := by
  unfold Ws Wm sRet
  simp only [wo_bind, wo_some]
theorem ws_rof {g : Md D} : Ws (sRof g) ρ R ↔ Wm g ρ fun d ρ1 => R (.rof d) ρ1 := by
  unfold Ws Wm sRof
  simp only [wo_bind, wo_some]
theorem ws_drop {g : Md D} : Ws (sDrop g) ρ R ↔ Wm g ρ fun _ ρ1 => R .nx ρ1 := by
  unfold Ws Wm sDrop
  simp only [wo_bind, wo_some]
theorem setC_eq {i : Nat} {c : Cell} : setC i c ρ = (canSet ρ[i]?).bind fun _ => some (ρ.set i (some c)) := by
  unfold setC canSet
  split <;> rename_i h <;> simp only [h] <;> try rfl
theorem ws_set {i : Nat} {g : Md D} : Ws (sSet i g) ρ R ↔ Wm g ρ fun d ρ1 => Wo (canSet ρ1[i]?) fun _ => R .nx (ρ1.set i (some (.val d))) := by
  unfold Ws Wm sSet
  simp only [wo_bind, wo_some, setC_eq]
theorem ws_own {i : Nat} {g : Md D} : Ws (sOwn i g) ρ R ↔ Wm g ρ fun d ρ1 => Wo (canSet ρ1[i]?) fun _ => R .nx (ρ1.set i (some (.own false d))) := by
  unfold Ws Wm sOwn
  simp only [wo_bind, wo_some, setC_eq]
theorem ws_asg {g : Md D} {t : D → Env → Option Env} : Ws (sAsg g t) ρ R ↔ Wm g ρ fun d ρ1 => Wo (t d ρ1) fun r => R .nx r := by
  unfold Ws Wm sAsg
  simp only [wo_bind, wo_some]
theorem wo_TN {i : Nat} {d : D} {Q : Env → Prop} : Wo (gTN i d ρ) Q ↔ Wo (canSet ρ[i]?) fun _ => Q (ρ.set i (some (.val d))) := by
  unfold gTN
  simp only [setC_eq, wo_bind, wo_some]
theorem wo_TNil {Q : Env → Prop} : Wo (gTNil [] ρ) Q ↔ Q ρ := wo_some
theorem wo_TCons {g : D → Env → Option Env} {gs : List D → Env → Option Env} {d : D} {ds : List D} {Q : Env → Prop} : Wo (gTCons g gs (d :: ds) ρ) Q ↔ Wo (g d ρ) fun ρ1 => Wo (gs ds ρ1) Q := wo_bind
theorem wo_TTup {n : Nat} {gs : List D → Env → Option Env} {ds : List D} {Q : Env → Prop} : Wo (gTTup n gs (.tuple ds) ρ) Q ↔ ds.length = n ∧ Wo (gs ds ρ) Q := by
  show Wo (if ds.length = n then gs ds ρ else none) Q ↔ _
  by_cases h : ds.length = n
  · rw [if_pos h]; simp [h]
  · rw [if_neg h, wo_none]; simp [h]
theorem ws_app {i : Nat} {g : Md D} {b0 : Bool} {xs : List D} (h : ρ[i]? = some (some (.own b0 (.list xs)))) : Ws (sApp i g) ρ R ↔ Wm g ρ fun d ρ1 => Wo (cOwn ρ1[i]?) fun c => Wo (lstOf c.2) fun ds => ds.length < 16777216 ∧ R .nx (ρ1.set i (some (.own c.1 (.list (ds ++ [d]))))) := by
  unfold Ws Wm sApp
  rw [h]
  simp only [wo_bind]
  refine Iff.of_eq (congrArg _ (funext fun p => ?_))
  try dsimp only
  split
  · rename_i b1 ds h1
    rw [h1, cOwn_own, wo_some]
    show _ = Wo (lstOf (.list ds)) _
    rw [lstOf_list, wo_some]
    by_cases hl : ds.length < 16777216
    · rw [if_pos hl, wo_some]; simp [hl]
    · rw [if_neg hl, wo_none]; simp [hl]
  · rename_i h1
    cases q : cOwn p.2[i]? with
    | none => rw [wo_none, wo_none]
    | some c =>
      have e := cOwn_some q
      rw [wo_none, wo_some]
      cases z : c.2 with
      | list ds => exact absurd (by rw [e, z]) (h1 c.1 ds)
      | none => exact propext ⟨False.elim, fun ⟨_, e, _⟩ => (by cases e)⟩
      | bool _ => exact propext ⟨False.elim, fun ⟨_, e, _⟩ => (by cases e)⟩
      | int _ => exact propext ⟨False.elim, fun ⟨_, e, _⟩ => (by cases e)⟩
      | str _ => exact propext ⟨False.elim, fun ⟨_, e, _⟩ => (by cases e)⟩
      | tuple _ => exact propext ⟨False.elim, fun ⟨_, e, _⟩ => (by cases e)⟩
      | dict _ => exact propext ⟨False.elim, fun ⟨_, e, _⟩ => (by cases e)⟩
theorem ws_ap {i : Nat} {g : Md D} : Ws (sApp i g) ρ R ↔ Wo (cOwn ρ[i]?) fun c0 => Wo (lstOf c0.2) fun _ => Wm g ρ fun d ρ1 => Wo (cOwn ρ1[i]?) fun c => Wo (lstOf c.2) fun ds => ds.length < 16777216 ∧ R .nx (ρ1.set i (some (.own c.1 (.list (ds ++ [d]))))) := by
  cases h : cOwn ρ[i]? with
  | none =>
    rw [wo_none]
    unfold Ws sApp
    split
    · rename_i b0 d0 h0
      rw [h0] at h
      cases h
    · rw [wo_none]
  | some c =>
    have e := cOwn_some h
    rw [wo_some]
    cases z : c.2 with
    | list xs =>
      rw [z] at e
      rw [lstOf_list, wo_some]
      exact ws_app e
    | none => exact ⟨fun ⟨_, q, _⟩ => (by rw [z] at e; unfold sApp at q; rw [e] at q; cases q), fun ⟨_, q, _⟩ => (by cases q)⟩
    | bool _ => exact ⟨fun ⟨_, q, _⟩ => (by rw [z] at e; unfold sApp at q; rw [e] at q; cases q), fun ⟨_, q, _⟩ => (by cases q)⟩
    | int _ => exact ⟨fun ⟨_, q, _⟩ => (by rw [z] at e; unfold sApp at q; rw [e] at q; cases q), fun ⟨_, q, _⟩ => (by cases q)⟩
    | str _ => exact ⟨fun ⟨_, q, _⟩ => (by rw [z] at e; unfold sApp at q; rw [e] at q; cases q), fun ⟨_, q, _⟩ => (by cases q)⟩
    | tuple _ => exact ⟨fun ⟨_, q, _⟩ => (by rw [z] at e; unfold sApp at q; rw [e] at q; cases q), fun ⟨_, q, _⟩ => (by cases q)⟩
    | dict _ => exact ⟨fun ⟨_, q, _⟩ => (by rw [z] at e; unfold sApp at q; rw [e] at q; cases q), fun ⟨_, q, _⟩ => (by cases q)⟩
theorem ws_setIx {i : Nat} {gv gi : Md D} : Ws (sSetIx i gv gi) ρ R ↔ Wm gv ρ fun d ρ1 => Wo (cOwn ρ1[i]?) fun _ => Wm gi ρ1 fun x ρ2 => Wo (iOf x) fun z => Wo (cOwn ρ2[i]?) fun c => Wo (lstOf c.2) fun ds => Wo (ixS ds.length z) fun j => R .nx (ρ2.set i (some (.own c.1 (.list (ds.set j d))))) := by
  unfold Ws Wm sSetIx
  rw [wo_bind]
  refine Iff.of_eq (congrArg _ (funext fun p => ?_))
  try dsimp only
  split
  · rename_i b0 d0 h0
    rw [h0, cOwn_own, wo_some, wo_bind]
    refine congrArg _ (funext fun q => ?_)
    try dsimp only
    rw [wo_bind]
    refine congrArg _ (funext fun z => ?_)
    try dsimp only
    split
    · rename_i b1 ds h1
      rw [h1, cOwn_own, wo_some, wo_bind]
      show _ = Wo (lstOf (.list ds)) _
      rw [lstOf_list, wo_some]
      simp only [wo_some]
    · rename_i h1
      cases q2 : cOwn q.2[i]? with
      | none => rw [wo_none, wo_none]
      | some c =>
        have e := cOwn_some q2
        rw [wo_none, wo_some]
        cases z : c.2 with
        | list ds => exact absurd (by rw [e, z]) (h1 c.1 ds)
        | none => exact propext ⟨False.elim, fun ⟨_, e, _⟩ => (by cases e)⟩
        | bool _ => exact propext ⟨False.elim, fun ⟨_, e, _⟩ => (by cases e)⟩
        | int _ => exact propext ⟨False.elim, fun ⟨_, e, _⟩ => (by cases e)⟩
        | str _ => exact propext ⟨False.elim, fun ⟨_, e, _⟩ => (by cases e)⟩
        | tuple _ => exact propext ⟨False.elim, fun ⟨_, e, _⟩ => (by cases e)⟩
        | dict _ => exact propext ⟨False.elim, fun ⟨_, e, _⟩ => (by cases e)⟩
  · rename_i h
    have e : cOwn p.2[i]? = none := by
      unfold cOwn
      split
      · rename_i b2 d2 z
        exact absurd z (h b2 d2)
      · rfl
    rw [e, wo_none, wo_none]
/-! loops -/
theorem ws_for {gi : Md (List D)} {tg : D → Env → Option Env} {b : Sd} : Ws (sFor gi tg b) ρ R ↔ Wm gi ρ fun ds ρ1 => Ws (forD tg b ds) ρ1 R := by
  unfold Ws Wm sFor
  rw [wo_bind]
theorem ws_mono {s : Sd} {R R' : Fl → Env → Prop} (h : Ws s ρ R) (i : ∀ f ρ', R f ρ' → R' f ρ') : Ws s ρ R' := wo_mono h fun p => i p.1 p.2
/-- every turn goes on -/
theorem for_all {tg : D → Env → Option Env} {b : Sd} (I : List D → Env → Prop) : ∀ (ds pre : List D) (ρ : Env), I pre ρ →
    (∀ (p : List D) (d : D) (r : List D) (ρ : Env), pre ++ ds = p ++ d :: r → I p ρ → Wo (tg d ρ) fun ρ1 => Ws b ρ1 fun f ρ2 => (f = .nx ∨ f = .cnt) ∧ I (p ++ [d]) ρ2) →
    Ws (forD tg b ds) ρ fun f ρ' => f = .nx ∧ I (pre ++ ds) ρ'
  | [], pre, ρ, h, _ => ⟨(.nx, ρ), rfl, rfl, by rw [List.append_nil]; exact h⟩
  | d :: ds, pre, ρ, h, st => by
    obtain ⟨ρ1, e1, ⟨f, ρ2⟩, e2, hf, h2⟩ := st pre d ds ρ rfl h
    have ih := for_all I ds (pre ++ [d]) ρ2 h2 (fun p d' r ρ' e => st p d' r ρ' (by rw [← e]; simp))
    obtain ⟨⟨f', ρ'⟩, e3, h3, h4⟩ := ih
    refine ⟨(f', ρ'), ?_, h3, by simpa using h4⟩
    have hf' : f = .nx ∨ f = .cnt := hf
    show ((tg d ρ).bind fun ρ1 => (b ρ1).bind _) = _
    rw [e1]
    show ((b ρ1).bind _) = _
    rw [e2]
    rcases hf' with z | z
    · subst z; exact e3
    · subst z; exact e3
theorem ws_forall {tg : D → Env → Option Env} {b : Sd} {ds : List D} (I : List D → Env → Prop) (h0 : I [] ρ)
    (st : ∀ (p : List D) (d : D) (r : List D) (ρ : Env), ds = p ++ d :: r → I p ρ → Wo (tg d ρ) fun ρ1 => Ws b ρ1 fun f ρ2 => (f = .nx ∨ f = .cnt) ∧ I (p ++ [d]) ρ2)
    (fin : ∀ ρ', I ds ρ' → R .nx ρ') : Ws (forD tg b ds) ρ R :=
  ws_mono (for_all I ds [] ρ h0 fun p d r ρ e => st p d r ρ (by simpa using e)) fun f ρ' ⟨h1, h2⟩ => by
    subst h1
    exact fin ρ' (by simpa using h2)
theorem for_nil {tg : D → Env → Option Env} {b : Sd} : Ws (forD tg b []) ρ R ↔ R .nx ρ := wo_some
def turnQ (t : Sd) (R : Fl → Env → Prop) : Fl → Env → Prop
  | .nx, ρ => Ws t ρ R
  | .cnt, ρ => Ws t ρ R
  | .brk, ρ => R .nx ρ
  | .ret d, ρ => R (.ret d) ρ
  | .rof d, ρ => R (.rof d) ρ
theorem turn_nx {t : Sd} : turnQ t R .nx ρ ↔ Ws t ρ R := Iff.rfl
theorem turn_cnt {t : Sd} : turnQ t R .cnt ρ ↔ Ws t ρ R := Iff.rfl
theorem turn_brk {t : Sd} : turnQ t R .brk ρ ↔ R .nx ρ := Iff.rfl
theorem turn_ret {t : Sd} {d : D} : turnQ t R (.ret d) ρ ↔ R (.ret d) ρ := Iff.rfl
theorem turn_rof {t : Sd} {d : D} : turnQ t R (.rof d) ρ ↔ R (.rof d) ρ := Iff.rfl
theorem for_cons {tg : D → Env → Option Env} {b : Sd} {d : D} {ds : List D} : Ws (forD tg b (d :: ds)) ρ R ↔ Wo (tg d ρ) fun ρ1 => Ws b ρ1 (turnQ (forD tg b ds) R) := by
  show Wo ((tg d ρ).bind fun ρ1 => (b ρ1).bind _) _ ↔ _
  rw [wo_bind]
  refine Iff.of_eq (congrArg _ (funext fun ρ1 => ?_))
  try dsimp only
  rw [wo_bind]
  unfold Ws
  refine congrArg _ (funext fun p => ?_)
  try dsimp only
  obtain ⟨f, ρ2⟩ := p
  cases f with
  | nx => rfl
  | cnt => rfl
  | ret d => exact propext wo_some
  | rof d => exact propext wo_some
  | brk => exact propext wo_some
theorem while_succ {c : Md Bool} {b : Sd} {n : Nat} : Ws (whileD c b (n + 1)) ρ R ↔ Wm c ρ fun t ρ1 => if t = true then Ws b ρ1 (turnQ (whileD c b n) R) else R .nx ρ1 := by
  show Wo ((c ρ).bind fun q => if q.1 = true then (b q.2).bind _ else _) _ ↔ _
  rw [wo_bind]
  unfold Wm
  refine Iff.of_eq (congrArg _ (funext fun q => ?_))
  try dsimp only
  rw [wo_ite, wo_some]
  by_cases h : q.1 = true
  · rw [if_pos h, if_pos h, wo_bind]
    unfold Ws
    refine congrArg _ (funext fun p => ?_)
    try dsimp only
    obtain ⟨f, ρ2⟩ := p
    cases f with
    | nx => rfl
    | cnt => rfl
    | ret d => exact propext wo_some
    | rof d => exact propext wo_some
    | brk => exact propext wo_some
  · rw [if_neg h, if_neg h]
/-! comprehensions -/
theorem wm_lc {vs : List Nat} {gi : Md (List D)} {tg : D → Env → Option Env} {tt : Md Bool} {te : Md D} : Wm (gLc vs gi tg tt te) ρ Q ↔ Wm gi ρ fun ds ρ1 => (ds.length ≤ 16777216 ∧ vs.all (notOwn ρ1) = true) ∧ Wo (lcD vs tg tt te ds (wipeE ρ1 vs)) fun r => Q (.list r.1) (backE ρ1 vs r.2) := by
  unfold Wm gLc
  rw [wo_bind]
  refine Iff.of_eq (congrArg _ (funext fun p => ?_))
  try dsimp only
  by_cases h : p.1.length ≤ 16777216 ∧ vs.all (notOwn p.2) = true
  · rw [if_pos h, wo_bind]
    simp only [wo_some]
    exact propext ⟨fun z => ⟨h, z⟩, fun z => z.2⟩
  · rw [if_neg h, wo_none]
    exact propext ⟨False.elim, fun z => h z.1⟩
theorem lc_nil {vs : List Nat} {tg : D → Env → Option Env} {tt : Md Bool} {te : Md D} {Q : List D × Env → Prop} : Wo (lcD vs tg tt te [] ρ) Q ↔ Q ([], ρ) := wo_some
theorem lc_cons {vs : List Nat} {tg : D → Env → Option Env} {tt : Md Bool} {te : Md D} {d : D} {ds : List D} {Q : List D × Env → Prop} : Wo (lcD vs tg tt te (d :: ds) ρ) Q ↔ Wo (tg d ρ) fun ρ1 => Wm tt ρ1 fun b ρ2 =>
    if b = true then Wm te ρ2 fun y ρ3 => Wo (lcD vs tg tt te ds (wipeE ρ3 vs)) fun r => Q (y :: r.1, r.2) else Wo (lcD vs tg tt te ds (wipeE ρ2 vs)) Q := by
  show Wo ((tg d ρ).bind fun ρ1 => (tt ρ1).bind _) _ ↔ _
  unfold Wm
  simp only [wo_bind, wo_some, wo_ite]
/-- every item is kept, the environment is as before -/
theorem lc_map {vs : List Nat} {tg : D → Env → Option Env} {te : Md D} (f : D → D) {Q : List D × Env → Prop} : ∀ (ds : List D), (∀ d ∈ ds, Wo (tg d ρ) fun ρ1 => Wm te ρ1 fun y ρ2 => y = f d ∧ wipeE ρ2 vs = ρ) → Q (ds.map f, ρ) → Wo (lcD vs tg gTrue te ds ρ) Q
  | [], _, q => lc_nil.mpr q
  | d :: ds, h, q => by
    rw [lc_cons]
    refine wo_mono (h d List.mem_cons_self) fun ρ1 h1 => ?_
    rw [wm_true, if_pos rfl]
    refine wo_mono h1 fun p h2 => ?_
    dsimp only at h2 ⊢
    rw [h2.2]
    refine lc_map f (Q := fun r => Q (p.1 :: r.1, r.2)) ds (fun d' hd => h d' (List.mem_cons_of_mem _ hd)) ?_
    rw [h2.1]
    exact q
theorem lc_mapA {α : Type} {vs : List Nat} {tg : D → Env → Option Env} {te : Md D} (h f : α → D) {Q : List D × Env → Prop} : ∀ (xs : List α), (∀ x ∈ xs, Wo (tg (h x) ρ) fun ρ1 => Wm te ρ1 fun y ρ2 => y = f x ∧ wipeE ρ2 vs = ρ) → Q (xs.map f, ρ) → Wo (lcD vs tg gTrue te (xs.map h) ρ) Q
  | [], _, q => lc_nil.mpr q
  | d :: ds, hs, q => by
    rw [List.map_cons, lc_cons]
    refine wo_mono (hs d List.mem_cons_self) fun ρ1 h1 => ?_
    rw [wm_true, if_pos rfl]
    refine wo_mono h1 fun p h2 => ?_
    dsimp only at h2 ⊢
    rw [h2.2]
    refine lc_mapA h f (Q := fun r => Q (p.1 :: r.1, r.2)) ds (fun d' hd => hs d' (List.mem_cons_of_mem _ hd)) ?_
    rw [h2.1]
    exact q
/-! a comprehension with a state -/
theorem lc_inv {vs : List Nat} {tg : D → Env → Option Env} {te : Md D} (I : List D → List D → Env → Prop) {Q : List D × Env → Prop} : ∀ (ds pre acc : List D) (ρ : Env), I pre acc ρ →
    (∀ (p : List D) (d : D) (r a : List D) (ρ : Env), pre ++ ds = p ++ d :: r → I p a ρ → Wo (tg d ρ) fun ρ1 => Wm te ρ1 fun y ρ2 => I (p ++ [d]) (a ++ [y]) (wipeE ρ2 vs)) →
    (∀ a ρ', I (pre ++ ds) (acc ++ a) ρ' → Q (a, ρ')) → Wo (lcD vs tg gTrue te ds ρ) Q
  | [], pre, acc, ρ, h, _, q => lc_nil.mpr (q [] ρ (by rw [List.append_nil, List.append_nil]; exact h))
  | d :: ds, pre, acc, ρ, h, st, q => by
    rw [lc_cons]
    refine wo_mono (st pre d ds acc ρ rfl h) fun ρ1 h1 => ?_
    rw [wm_true, if_pos rfl]
    refine wo_mono h1 fun p h2 => ?_
    exact lc_inv I (Q := fun r => Q (p.1 :: r.1, r.2)) ds (pre ++ [d]) (acc ++ [p.1]) _ h2 (fun p' d' r a ρ' e => st p' d' r a ρ' (by rw [← e]; simp)) fun a ρ' hI => q (p.1 :: a) ρ' (by simpa using hI)

/-! defs -/
theorem wo_runV {N : Nat} {g : Sd} {ds : List D} {Q : D → Prop} : Wo (runV N g ds) Q ↔ Ws g (envV N ds) fun f ρ => Wo (endV (f, ρ)) Q := wo_bind
theorem wo_runF {N : Nat} {g : Sd} {ds : List D} {Q : D → Prop} : Wo (runF N g ds) Q ↔ Ws g (envV N ds) fun f ρ => Wo (endF (f, ρ)) Q := wo_bind
theorem wo_runIO {N : Nat} {g : Sd} {d : D} {ds : List D} {Q : D × D → Prop} : Wo (runIO N g d ds) Q ↔ Ws g (envIO N d ds) fun f ρ => Wo (endIO (f, ρ)) Q := wo_bind
theorem end_ret {d : D} {Q : D → Prop} : Wo (endV (.ret d, ρ)) Q ↔ Q d := wo_some
theorem end_nx {Q : D → Prop} : Wo (endV (.nx, ρ)) Q ↔ Q .none := wo_some
theorem end_rof {d : D} {Q : D → Prop} : Wo (endF (.rof d, ρ)) Q ↔ Q d := wo_some
theorem end_io {f : Fl} {Q : D × D → Prop} : Wo (endIO (f, ρ)) Q ↔ Wo (ownOf ρ[0]?) fun d => Wo (endV (f, ρ)) fun r => Q (r, d) := by
  unfold endIO
  simp only [wo_bind, wo_some]
theorem ownOf_own {d : D} : ownOf (some (some (.own true d))) = some d := rfl
end
/-! the functions on data, at data that are told -/
section
variable {i j : Int} {a b : Str} {p q : Bool} {xs ys : List D} {d e : D}
theorem add_ii : addD (.int i) (.int j) = some (.int (i + j)) := rfl
theorem add_ll : addD (.list xs) (.list ys) = if xs.length + ys.length ≤ 16777216 then some (.list (xs ++ ys)) else none := rfl
theorem add_tt : addD (.tuple xs) (.tuple ys) = if xs.length + ys.length ≤ 16777216 then some (.tuple (xs ++ ys)) else none := rfl
theorem add_ss : addD (.str a) (.str b) = if a.length + b.length ≤ 16777216 then some (.str (a ++ b)) else none := rfl
theorem sub_ii : subD (.int i) (.int j) = some (.int (i - j)) := rfl
theorem mul_ii : mulD (.int i) (.int j) = if i.natAbs.log2 + j.natAbs.log2 < 1000000 then some (.int (i * j)) else none := rfl
theorem mulS_ii : mulS (.int i) (.int j) = if -(2 ^ 64) < j ∧ j < 2 ^ 64 then some (.int (i * j)) else none := rfl
theorem mod_ii : modD (.int i) (.int j) = if 0 < j then some (.int (i % j)) else none := rfl
theorem fdiv_ii : fdivD (.int i) (.int j) = if 0 < j ∧ j < 18446744073709551616 then some (.int (i / j)) else none := rfl
theorem neg_i : negD (.int i) = some (.int (-i)) := rfl
theorem le_ii : leD (.int i) (.int j) = some (.bool (decide (i ≤ j))) := rfl
theorem gt_ii : gtD (.int i) (.int j) = some (.bool (decide (j < i))) := rfl
theorem ge_ii : geD (.int i) (.int j) = some (.bool (decide (j ≤ i))) := rfl
theorem eqT_ii : eqT (.int i) (.int j) = some (decide (i = j)) := rfl
theorem eqT_ss : eqT (.str a) (.str b) = some (decide (a = b)) := rfl
theorem eqT_bb : eqT (.bool p) (.bool q) = some (decide (p = q)) := rfl
theorem eqT_nn : eqT .none .none = some true := rfl
theorem ltT_ii : ltT (.int i) (.int j) = some (decide (i < j)) := rfl
theorem ltT_ss : ltT (.str a) (.str b) = some (decide (a.cps.toList < b.cps.toList)) := rfl
theorem wo_eqD {Q : D → Prop} : Wo (eqD d e) Q ↔ Wo (eqT d e) fun b => Q (.bool b) := by
  unfold eqD
  simp only [wo_bind, wo_some]
theorem wo_neD {Q : D → Prop} : Wo (neD d e) Q ↔ Wo (eqT d e) fun b => Q (.bool (!b)) := by
  unfold neD
  simp only [wo_bind, wo_some]
theorem wo_ltD {Q : D → Prop} : Wo (ltD d e) Q ↔ Wo (ltT d e) fun b => Q (.bool b) := by
  unfold ltD
  simp only [wo_bind, wo_some]
theorem wo_inD {Q : D → Prop} : Wo (inD d e) Q ↔ Wo (inT d e) fun b => Q (.bool b) := by
  unfold inD
  simp only [wo_bind, wo_some]
theorem wo_ninD {Q : D → Prop} : Wo (ninD d e) Q ↔ Wo (inT d e) fun b => Q (.bool (!b)) := by
  unfold ninD
  simp only [wo_bind, wo_some]
theorem is_n : isD d .none = some (.bool (isN d)) := by cases d <;> rfl
theorem isnt_n : isntD d .none = some (.bool (!isN d)) := by cases d <;> rfl
theorem is_bb : isD (.bool p) (.bool q) = some (.bool (decide (p = q))) := rfl
theorem isnt_bb : isntD (.bool p) (.bool q) = some (.bool (!decide (p = q))) := rfl
theorem bOf_b : bOf (.bool p) = some p := rfl
theorem iOf_i : iOf (.int i) = some i := rfl
theorem tru_b : truT (.bool p) = some p := rfl
theorem tru_n : truT .none = some false := rfl
theorem tru_i : truT (.int i) = some (i != 0) := rfl
theorem tru_l : truT (.list xs) = some (!xs.isEmpty) := rfl
theorem tru_t : truT (.tuple xs) = some (!xs.isEmpty) := rfl
theorem seq_l : seqOf (.list xs) = some xs := rfl
theorem seq_t : seqOf (.tuple xs) = some xs := rfl
theorem tup_l : tupF [.list xs] = some (.tuple xs) := rfl
theorem tup_t : tupF [.tuple xs] = some (.tuple xs) := rfl
theorem lst_l : lstF [.list xs] = some (.list xs) := rfl
theorem lst_t : lstF [.tuple xs] = some (.list xs) := rfl
theorem len_l : lenF [.list xs] = some (.int xs.length) := rfl
theorem len_t : lenF [.tuple xs] = some (.int xs.length) := rfl
theorem int_i : intF [.int i] = some (.int i) := rfl
theorem int_b : intF [.bool p] = some (.int (if p then 1 else 0)) := rfl
theorem abs_i : absF [.int i] = some (.int (if i < 0 then -i else i)) := rfl
theorem max_ii : maxF [.int i, .int j] = some (.int (if j > i then j else i)) := rfl
theorem min_ii : minF [.int i, .int j] = some (.int (if j < i then j else i)) := rfl
theorem ix_li : ixD (.list xs) (.int i) = ixA xs i := rfl
theorem ix_ti : ixD (.tuple xs) (.int i) = ixA xs i := rfl
theorem cut_l {l h : Option Int} : cutD (.list xs) l h = some (.list (cutA xs l h)) := rfl
theorem cut_t {l h : Option Int} : cutD (.tuple xs) l h = some (.tuple (cutA xs l h)) := rfl
theorem flat_i : flatD (.int i) = true := rfl
theorem flat_b : flatD (.bool p) = true := rfl
theorem flat_s : flatD (.str a) = true := rfl
theorem ix0 {α : Type} {x : α} {xs : List α} : ixA (x :: xs) 0 = some x := rfl
theorem ix1 {α : Type} {x y : α} {xs : List α} : ixA (x :: y :: xs) 1 = some y := rfl
theorem ix2 {α : Type} {x y z : α} {xs : List α} : ixA (x :: y :: z :: xs) 2 = some z := rfl
theorem isi_1 {T : String} {Q : D → Prop} : Wo (isiF T [d]) Q ↔ tyOk d = true ∧ Wo (L2.kitB (tyD d) T) fun b => Q (.bool b) := by
  show Wo (if tyOk d = true then (L2.kitB (tyD d) T).bind fun b => some (.bool b) else none) Q ↔ _
  by_cases h : tyOk d = true
  · simp only [h, ↓reduceIte, wo_bind, wo_some, true_and]
  · simp only [h, ↓reduceIte, wo_none, false_and, Bool.false_eq_true]
theorem tyOk_n : tyOk .none = true := rfl
theorem tyOk_b : tyOk (.bool p) = true := rfl
theorem tyOk_i : tyOk (.int i) = true := rfl
theorem tyOk_s : tyOk (.str a) = true := rfl
theorem tyOk_l : tyOk (.list xs) = true := rfl
theorem tyOk_t : tyOk (.tuple xs) = true := rfl
theorem k_nb : L2.kitB "NoneType" "bool" = some false := by decide +kernel
theorem k_bb : L2.kitB "bool" "bool" = some true := by decide +kernel
theorem k_ib : L2.kitB "int" "bool" = some false := by decide +kernel
theorem k_sb : L2.kitB "str" "bool" = some false := by decide +kernel
theorem k_ni : L2.kitB "NoneType" "int" = some false := by decide +kernel
theorem k_bi : L2.kitB "bool" "int" = some true := by decide +kernel
theorem k_ii : L2.kitB "int" "int" = some true := by decide +kernel
theorem k_si : L2.kitB "str" "int" = some false := by decide +kernel
theorem k_ns : L2.kitB "NoneType" "str" = some false := by decide +kernel
theorem k_bs : L2.kitB "bool" "str" = some false := by decide +kernel
theorem k_is : L2.kitB "int" "str" = some false := by decide +kernel
theorem k_ss : L2.kitB "str" "str" = some true := by decide +kernel
theorem k_ll : L2.kitB "list" "list" = some true := by decide +kernel
theorem k_tt : L2.kitB "tuple" "tuple" = some true := by decide +kernel
theorem ty_n : tyD .none = "NoneType" := rfl
theorem ty_b : tyD (.bool p) = "bool" := rfl
theorem ty_i : tyD (.int i) = "int" := rfl
theorem ty_s : tyD (.str a) = "str" := rfl
theorem ty_l : tyD (.list xs) = "list" := rfl
theorem ty_t : tyD (.tuple xs) = "tuple" := rfl
theorem wm_enum {a : Md (List D)} {ρ : Env} {Q : List D → Env → Prop} : Wm (gEnum a) ρ Q ↔ Wm a ρ fun x ρ1 => Wo (enumOf x) fun ds => Q ds ρ1 := by
  show Wo ((a ρ).bind fun p => (enumOf p.1).bind fun ds => some (ds, p.2)) _ ↔ _
  unfold Wm
  simp only [wo_bind, wo_some]
theorem enum_l : enumOf [.list xs] = some (enumL 0 xs) := rfl
theorem enum_t : enumOf [.tuple xs] = some (enumL 0 xs) := rfl
theorem enumL_nil {n : Nat} : enumL n [] = [] := rfl
theorem enumL_cons {n : Nat} : enumL n (d :: xs) = .tuple [.int n, d] :: enumL (n + 1) xs := rfl
theorem wm_dic {gs : List (Md D × Md D)} {ρ : Env} {Q : D → Env → Prop} : Wm (gDic gs) ρ Q ↔ Wm (gKV gs) ρ fun es ρ1 => keysOk es = true ∧ Q (PyData.dict es) ρ1 := by
  show Wo ((gKV gs ρ).bind fun p => if keysOk p.1 = true then some (PyData.dict p.1, p.2) else none) _ ↔ _
  unfold Wm
  rw [wo_bind]
  refine Iff.of_eq (congrArg _ (funext fun p => ?_))
  by_cases h : keysOk p.1 = true
  · simp only [h, ↓reduceIte, wo_some, true_and]
  · simp only [h, ↓reduceIte, wo_none, false_and, Bool.false_eq_true]
theorem wm_kvn {ρ : Env} {Q : List (D × D) → Env → Prop} : Wm (gKV []) ρ Q ↔ Q [] ρ := wo_some
theorem wm_kvc {gk gv : Md D} {r : List (Md D × Md D)} {ρ : Env} {Q : List (D × D) → Env → Prop} : Wm (gKV ((gk, gv) :: r)) ρ Q ↔ Wm gk ρ fun k ρ1 => Wm gv ρ1 fun v ρ2 => Wm (gKV r) ρ2 fun es ρ3 => Q ((k, v) :: es) ρ3 := by
  show Wo ((gk ρ).bind fun p => (gv p.2).bind fun q => (gKV r q.2).bind fun z => some ((p.1, q.1) :: z.1, z.2)) _ ↔ _
  unfold Wm
  simp only [wo_bind, wo_some]
theorem seq_s : seqOf (.str a) = some (signsL a) := rfl
theorem mulT_si : mulT (.str a) (.int i) = if 0 ≤ i ∧ i ≤ 1000 ∧ a.length ≤ 1000 then some (.str (Txt.mul a i)) else none := rfl
theorem len_s : lenF [.str a] = if a.length ≤ 16777216 then some (.int a.length) else none := rfl
theorem ord_c {c : Nat} : ordF [.str ⟨#[c]⟩] = some (.int c) := rfl
theorem str_i : strF [.int i] = if i.natAbs.log2 < 1920 then some (.str (toString i)) else none := rfl
theorem k_lb : L2.kitB "list" "bool" = some false := by decide +kernel
theorem k_li : L2.kitB "list" "int" = some false := by decide +kernel
theorem k_ls : L2.kitB "list" "str" = some false := by decide +kernel
theorem k_tb : L2.kitB "tuple" "bool" = some false := by decide +kernel
theorem k_ti : L2.kitB "tuple" "int" = some false := by decide +kernel
theorem k_ts : L2.kitB "tuple" "str" = some false := by decide +kernel
theorem k_db : L2.kitB "dict" "bool" = some false := by decide +kernel
theorem k_di : L2.kitB "dict" "int" = some false := by decide +kernel
theorem k_ds : L2.kitB "dict" "str" = some false := by decide +kernel
theorem k_lt : L2.kitB "list" "tuple" = some false := by decide +kernel
theorem k_tl : L2.kitB "tuple" "list" = some false := by decide +kernel
theorem ty_d {es : List (D × D)} : tyD (.dict es) = "dict" := rfl
theorem wm_reve {a : Md D} {ρ : Env} {Q : List D → Env → Prop} : Wm (gReve a) ρ Q ↔ Wm a ρ fun x ρ1 => Wo (revOf x) fun ds => Q ds ρ1 := by
  show Wo ((a ρ).bind fun p => (revOf p.1).bind fun ds => some (ds, p.2)) _ ↔ _
  unfold Wm
  simp only [wo_bind, wo_some]
theorem rev_l : revOf (.list xs) = some xs.reverse := rfl
theorem rev_t : revOf (.tuple xs) = some xs.reverse := rfl
theorem wm_opBL {f : D → D → Option D} {i : Nat} {g : Md D} {ρ : Env} {Q : D → Env → Prop} : Wm (gOpBL f i g) ρ Q ↔ Wo (peekOf ρ[i]?) fun _ => Wm g ρ fun x ρ1 => Wo (peekOf ρ1[i]?) fun d => Wo (f d x) fun r => flatD r = true ∧ Q r ρ1 := by
  have e : ∀ ρ : Env, peek ρ i = peekOf ρ[i]? := fun ρ => rfl
  show Wo ((peek ρ i).bind fun _ => (g ρ).bind fun p => (peek p.2 i).bind fun d => (f d p.1).bind fun r => if flatD r = true then some (r, p.2) else none) _ ↔ _
  unfold Wm
  simp only [wo_bind, e]
  refine Iff.of_eq (congrArg _ (funext fun _ => congrArg _ (funext fun p => congrArg _ (funext fun d => congrArg _ (funext fun r => ?_)))))
  by_cases h : flatD r = true
  · simp only [h, ↓reduceIte, wo_some, true_and]
  · simp only [h, ↓reduceIte, wo_none, false_and, Bool.false_eq_true]
theorem repr_l : reprF [.list xs] = if reprOk (.list xs) = true then some (.str (PyData.list xs).shown) else none := rfl
theorem sort_l : sortF [.list xs] = if DnSo.sortOk xs = true then some (.list (xs.mergeSort DnSo.leD3)) else none := rfl
theorem sum_l : sumF [.list xs] = (numsOf xs).bind fun ns => some (.int ns.sum) := rfl
/-- those that pass a test -/
theorem lc_filterA {α : Type} {vs : List Nat} {tg : D → Env → Option Env} {tt : Md Bool} {te : Md D} (h f : α → D) (p : α → Bool) {ρ : Env} {Q : List D × Env → Prop} : ∀ (xs : List α), (∀ x ∈ xs, Wo (tg (h x) ρ) fun ρ1 => Wm tt ρ1 fun b ρ2 => b = p x ∧ (b = true → Wm te ρ2 fun y ρ3 => y = f x ∧ wipeE ρ3 vs = ρ) ∧ (b = false → wipeE ρ2 vs = ρ)) → Q ((xs.filter p).map f, ρ) → Wo (lcD vs tg tt te (xs.map h) ρ) Q
  | [], _, q => lc_nil.mpr q
  | d :: ds, hs, q => by
    rw [List.map_cons, lc_cons]
    refine wo_mono (hs d List.mem_cons_self) fun ρ1 h1 => ?_
    refine wo_mono h1 fun b h2 => ?_
    obtain ⟨h3, h4, h5⟩ := h2
    rw [List.filter_cons] at q
    rw [← h3] at q
    cases hb : b.1 with
    | true =>
      rw [hb] at q
      rw [if_pos rfl] at q ⊢
      refine wo_mono (h4 hb) fun y h6 => ?_
      dsimp only at h6 ⊢
      rw [h6.2]
      refine lc_filterA h f p (Q := fun r => Q (y.1 :: r.1, r.2)) ds (fun d' hd => hs d' (List.mem_cons_of_mem _ hd)) ?_
      rw [h6.1]
      exact q
    | false =>
      rw [hb] at q
      rw [if_neg (by decide)] at q ⊢
      rw [h5 hb]
      exact lc_filterA h f p ds (fun d' hd => hs d' (List.mem_cons_of_mem _ hd)) q
end
end Dm
set_option maxHeartbeats 2000000
/-! words for reckoning: dicts of one's own, extend -/
namespace Dm
open PySem Dn DnSo
def dOwn : Option (Option Cell) → Option (Bool × List (D × D))
  | some (some (.own b (.dict es))) => some (b, es)
  | _ => none
def lOwn : Option (Option Cell) → Option (Bool × List D)
  | some (some (.own b (.list ds))) => some (b, ds)
  | _ => none
section
variable {ρ : Env} {Q : D → Env → Prop} {R : Fl → Env → Prop} {i : Nat}
theorem dOwn_own {b : Bool} {es : List (D × D)} : dOwn (some (some (.own b (.dict es)))) = some (b, es) := rfl
theorem lOwn_own {b : Bool} {ds : List D} : lOwn (some (some (.own b (.list ds)))) = some (b, ds) := rfl
theorem dic_cases (o : Option (Option Cell)) : (∃ b es, o = some (some (.own b (.dict es)))) ∨ (dOwn o = none ∧ ∀ b es, o ≠ some (some (.own b (.dict es)))) := by
  rcases o with _ | _ | d | ⟨b, d⟩
  · exact .inr ⟨rfl, fun _ _ h => by cases h⟩
  · exact .inr ⟨rfl, fun _ _ h => by cases h⟩
  · exact .inr ⟨rfl, fun _ _ h => by cases h⟩
  · cases d with
    | dict es => exact .inl ⟨b, es, rfl⟩
    | _ => exact .inr ⟨rfl, fun _ _ h => by cases h⟩
theorem lst_cases (o : Option (Option Cell)) : (∃ b ds, o = some (some (.own b (.list ds)))) ∨ (lOwn o = none ∧ ∀ b ds, o ≠ some (some (.own b (.list ds)))) := by
  rcases o with _ | _ | d | ⟨b, d⟩
  · exact .inr ⟨rfl, fun _ _ h => by cases h⟩
  · exact .inr ⟨rfl, fun _ _ h => by cases h⟩
  · exact .inr ⟨rfl, fun _ _ h => by cases h⟩
  · cases d with
    | list ds => exact .inl ⟨b, ds, rfl⟩
    | _ => exact .inr ⟨rfl, fun _ _ h => by cases h⟩
theorem own_cases (o : Option (Option Cell)) : (∃ b d, o = some (some (.own b d))) ∨ (cOwn o = none ∧ ∀ b d, o ≠ some (some (.own b d))) := by
  rcases o with _ | _ | d | ⟨b, d⟩
  · exact .inr ⟨rfl, fun _ _ h => by cases h⟩
  · exact .inr ⟨rfl, fun _ _ h => by cases h⟩
  · exact .inr ⟨rfl, fun _ _ h => by cases h⟩
  · exact .inl ⟨b, d, rfl⟩
def putO (es : List (D × D)) (k v : D) : Option (List (D × D)) := if keyTup k = true ∧ (nkD k).isSome = true ∧ es.length < 16777216 then some (putD es k v) else none
def atO (es : List (D × D)) (k : D) : Option D := if keyTup k = true ∧ (nkD k).isSome = true then atD es k else none
def getO (es : List (D × D)) (k x : D) : Option D := if keyTup k = true ∧ (nkD k).isSome = true then some ((atD es k).getD x) else none
def srtO (es : List (D × D)) : Option D := if sortOk (es.map (·.1)) = true then some (.list ((es.map (·.1)).mergeSort leD3)) else none
theorem wm_newD : Wm gNewD ρ Q ↔ Q (.dict []) ρ := wo_some
theorem ws_setK {gv gk : Md D} : Ws (sSetK i gv gk) ρ R ↔ Wm gv ρ fun v ρ1 => Wo (cOwn ρ1[i]?) fun _ => Wm gk ρ1 fun k ρ2 => Wo (dOwn ρ2[i]?) fun c => Wo (putO c.2 k v) fun es => R .nx (ρ2.set i (some (.own c.1 (.dict es)))) := by
  unfold Ws Wm sSetK
  rw [wo_bind]
  refine Iff.of_eq (congrArg _ (funext fun p => ?_))
  try dsimp only
  rcases own_cases p.2[i]? with ⟨b, d, h⟩ | ⟨h, hn⟩
  · split
    · rw [h, cOwn_own, wo_some, wo_bind]
      refine congrArg _ (funext fun q => ?_)
      try dsimp only
      rcases dic_cases q.2[i]? with ⟨b, es, h2⟩ | ⟨h2, hn⟩
      · split
        · rename_i e
          rw [h2] at e
          cases e
          rw [h2, dOwn_own, wo_some]
          unfold putO
          simp only [wo_ite, wo_some, wo_none]
        · rename_i e
          exact absurd h2 (e _ _)
      · split
        · rename_i e
          exact absurd e (hn _ _)
        · rw [h2, wo_none, wo_none]
    · rename_i e
      exact absurd h (e _ _)
  · split
    · rename_i e
      exact absurd e (hn _ _)
    · rw [h, wo_none, wo_none]
theorem wm_get {gk gx : Md D} : Wm (gGet i gk gx) ρ Q ↔ Wo (dOwn ρ[i]?) fun _ => Wm gk ρ fun k ρ1 => Wm gx ρ1 fun x ρ2 => Wo (dOwn ρ2[i]?) fun c => Wo (getO c.2 k x) fun r => Q r ρ2 := by
  unfold Wm gGet
  rcases dic_cases ρ[i]? with ⟨b, es, h⟩ | ⟨h, hn⟩
  · split
    · rw [h, dOwn_own, wo_some, wo_bind]
      refine Iff.of_eq (congrArg _ (funext fun p => ?_))
      try dsimp only
      rw [wo_bind]
      refine congrArg _ (funext fun q => ?_)
      try dsimp only
      rcases dic_cases q.2[i]? with ⟨b, es, h2⟩ | ⟨h2, hn⟩
      · split
        · rename_i e
          rw [h2] at e
          cases e
          rw [h2, dOwn_own, wo_some]
          unfold getO
          simp only [wo_ite, wo_some, wo_none]
        · rename_i e
          exact absurd h2 (e _ _)
      · split
        · rename_i e
          exact absurd e (hn _ _)
        · rw [h2, wo_none, wo_none]
    · rename_i e
      exact absurd h (e _ _)
  · split
    · rename_i e
      exact absurd e (hn _ _)
    · rw [h, wo_none, wo_none]
theorem wm_ixK {gk : Md D} : Wm (gIxK i gk) ρ Q ↔ Wo (dOwn ρ[i]?) fun _ => Wm gk ρ fun k ρ1 => Wo (dOwn ρ1[i]?) fun c => Wo (atO c.2 k) fun r => Q r ρ1 := by
  unfold Wm gIxK
  rcases dic_cases ρ[i]? with ⟨b, es, h⟩ | ⟨h, hn⟩
  · split
    · rw [h, dOwn_own, wo_some, wo_bind]
      refine Iff.of_eq (congrArg _ (funext fun q => ?_))
      try dsimp only
      rcases dic_cases q.2[i]? with ⟨b, es, h2⟩ | ⟨h2, hn⟩
      · split
        · rename_i e
          rw [h2] at e
          cases e
          rw [h2, dOwn_own, wo_some]
          unfold atO
          simp only [wo_ite, wo_bind, wo_some, wo_none]
        · rename_i e
          exact absurd h2 (e _ _)
      · split
        · rename_i e
          exact absurd e (hn _ _)
        · rw [h2, wo_none, wo_none]
    · rename_i e
      exact absurd h (e _ _)
  · split
    · rename_i e
      exact absurd e (hn _ _)
    · rw [h, wo_none, wo_none]
theorem wm_sortN : Wm (gSortN i) ρ Q ↔ Wo (dOwn ρ[i]?) fun c => Wo (srtO c.2) fun r => Q r ρ := by
  unfold Wm gSortN
  rcases dic_cases ρ[i]? with ⟨b, es, h⟩ | ⟨h, hn⟩
  · split
    · rename_i e
      rw [h] at e
      cases e
      rw [h, dOwn_own, wo_some]
      unfold srtO
      simp only [wo_ite, wo_some, wo_none]
    · rename_i e
      exact absurd h (e _ _)
  · split
    · rename_i e
      exact absurd e (hn _ _)
    · rw [h, wo_none, wo_none]
theorem ws_ext {g : Md D} : Ws (sExt i g) ρ R ↔ Wo (lOwn ρ[i]?) fun _ => Wm g ρ fun d ρ1 => Wo (lOwn ρ1[i]?) fun c => Wo (lsD d) fun es => c.2.length + es.length ≤ 16777216 ∧ R .nx (ρ1.set i (some (.own c.1 (.list (c.2 ++ es))))) := by
  unfold Ws Wm sExt
  rcases lst_cases ρ[i]? with ⟨b, es, h⟩ | ⟨h, hn⟩
  · split
    · rw [h, lOwn_own, wo_some, wo_bind]
      refine Iff.of_eq (congrArg _ (funext fun q => ?_))
      try dsimp only
      rcases lst_cases q.2[i]? with ⟨b, es, h2⟩ | ⟨h2, hn⟩
      · split
        · rename_i e
          rw [h2] at e
          cases e
          rw [h2, lOwn_own, wo_some, wo_bind]
          refine congrArg _ (funext fun fs => ?_)
          try dsimp only
          rw [wo_ite, wo_some, wo_none]
          by_cases z : es.length + fs.length ≤ 16777216
          · rw [if_pos z]
            simp [z]
          · rw [if_neg z]
            simp [z]
        · rename_i e
          exact absurd h2 (e _ _)
      · split
        · rename_i e
          exact absurd e (hn _ _)
        · rw [h2, wo_none, wo_none]
    · rename_i e
      exact absurd h (e _ _)
  · split
    · rename_i e
      exact absurd e (hn _ _)
    · rw [h, wo_none, wo_none]
/-- a loop over items drawn by h: what holds ahead of each, what is asked of a turn -/
def stepQ (I : Env → Prop) (R : Fl → Env → Prop) : Fl → Env → Prop
  | .nx, ρ => I ρ
  | .cnt, ρ => I ρ
  | .brk, ρ => R .nx ρ
  | .ret d, ρ => R (.ret d) ρ
  | .rof d, ρ => R (.rof d) ρ
theorem step_nx {I : Env → Prop} : stepQ I R .nx ρ ↔ I ρ := Iff.rfl
theorem step_cnt {I : Env → Prop} : stepQ I R .cnt ρ ↔ I ρ := Iff.rfl
theorem step_brk {I : Env → Prop} : stepQ I R .brk ρ ↔ R .nx ρ := Iff.rfl
theorem step_ret {I : Env → Prop} {d : D} : stepQ I R (.ret d) ρ ↔ R (.ret d) ρ := Iff.rfl
theorem step_rof {I : Env → Prop} {d : D} : stepQ I R (.rof d) ρ ↔ R (.rof d) ρ := Iff.rfl
theorem for_go {α : Type} (h : α → D) {tg : D → Env → Option Env} {b : Sd} (I : List α → Env → Prop) : ∀ (xs p : List α) (ρ : Env), I p ρ →
    (∀ (q : List α) (x : α) (r : List α) (ρ : Env), p ++ xs = q ++ x :: r → I q ρ → Wo (tg (h x) ρ) fun ρ1 => Ws b ρ1 (stepQ (I (q ++ [x])) R)) →
    (∀ ρ', I (p ++ xs) ρ' → R .nx ρ') → Ws (forD tg b (xs.map h)) ρ R
  | [], p, ρ, h0, _, fin => for_nil.mpr (fin ρ (by rw [List.append_nil]; exact h0))
  | x :: xs, p, ρ, h0, st, fin => by
    rw [List.map_cons, for_cons]
    refine wo_mono (st p x xs ρ rfl h0) fun ρ1 h1 => ws_mono h1 fun f ρ2 h2 => ?_
    have go : I (p ++ [x]) ρ2 → Ws (forD tg b (xs.map h)) ρ2 R := fun h3 => for_go h I xs (p ++ [x]) ρ2 h3 (fun q y r ρ' e => st q y r ρ' (by rw [← e]; simp)) fun ρ' h4 => fin ρ' (by simpa using h4)
    cases f with
    | nx => exact go h2
    | cnt => exact go h2
    | brk => exact h2
    | ret d => exact h2
    | rof d => exact h2
theorem ws_forA {α : Type} (h : α → D) {xs : List α} {tg : D → Env → Option Env} {b : Sd} (I : List α → Env → Prop) (h0 : I [] ρ)
    (st : ∀ (q : List α) (x : α) (r : List α) (ρ : Env), xs = q ++ x :: r → I q ρ → Wo (tg (h x) ρ) fun ρ1 => Ws b ρ1 (stepQ (I (q ++ [x])) R))
    (fin : ∀ ρ', I xs ρ' → R .nx ρ') : Ws (forD tg b (xs.map h)) ρ R := for_go h I xs [] ρ h0 st fin
theorem for_en {α : Type} (h : α → D) {tg : D → Env → Option Env} {b : Sd} (I : List α → Env → Prop) : ∀ (xs p : List α) (ρ : Env), I p ρ →
    (∀ (q : List α) (x : α) (r : List α) (ρ : Env), p ++ xs = q ++ x :: r → I q ρ → Wo (tg (.tuple [.int q.length, h x]) ρ) fun ρ1 => Ws b ρ1 (stepQ (I (q ++ [x])) R)) →
    (∀ ρ', I (p ++ xs) ρ' → R .nx ρ') → Ws (forD tg b (enumL p.length (xs.map h))) ρ R
  | [], p, ρ, h0, _, fin => for_nil.mpr (fin ρ (by rw [List.append_nil]; exact h0))
  | x :: xs, p, ρ, h0, st, fin => by
    rw [List.map_cons, enumL_cons, for_cons]
    refine wo_mono (st p x xs ρ rfl h0) fun ρ1 h1 => ws_mono h1 fun f ρ2 h2 => ?_
    have e : p.length + 1 = (p ++ [x]).length := by rw [List.length_append, List.length_singleton]
    have go : I (p ++ [x]) ρ2 → Ws (forD tg b (enumL (p.length + 1) (xs.map h))) ρ2 R := fun h3 => by
      rw [e]
      exact for_en h I xs (p ++ [x]) ρ2 h3 (fun q y r ρ' e => st q y r ρ' (by rw [← e]; simp)) fun ρ' h4 => fin ρ' (by simpa using h4)
    cases f with
    | nx => exact go h2
    | cnt => exact go h2
    | brk => exact h2
    | ret d => exact h2
    | rof d => exact h2
theorem ws_forEn {α : Type} (h : α → D) {xs : List α} {tg : D → Env → Option Env} {b : Sd} (I : List α → Env → Prop) (h0 : I [] ρ)
    (st : ∀ (q : List α) (x : α) (r : List α) (ρ : Env), xs = q ++ x :: r → I q ρ → Wo (tg (.tuple [.int q.length, h x]) ρ) fun ρ1 => Ws b ρ1 (stepQ (I (q ++ [x])) R))
    (fin : ∀ ρ', I xs ρ' → R .nx ρ') : Ws (forD tg b (enumL 0 (xs.map h))) ρ R := for_en h I xs [] ρ h0 st fin
theorem rng_map (n : Nat) : rngL 0 n = (List.range n).map fun i : Nat => PyData.int i := by
  unfold rngL
  exact List.map_congr_left fun i _ => by rw [Int.zero_add]
theorem rng_split {n i : Nat} {p r : List Nat} (e : List.range n = p ++ i :: r) : p.length = i ∧ i < n := by
  have hl := congrArg List.length e
  rw [List.length_range, List.length_append, List.length_cons] at hl
  have h1 : (List.range n)[p.length]? = some i := by rw [e]; simp
  rw [List.getElem?_range (by omega)] at h1
  have := Option.some.inj h1
  omega
theorem lsD_list {ds : List D} : lsD (.list ds) = some ds := rfl
end
end Dm
set_option maxHeartbeats 2000000
/-! words for reckoning: groups, dicts that stand, list.index -/
namespace Dm
open PySem Dn DnSo
section
variable {ρ : Env} {Q : D → Env → Prop} {R : Fl → Env → Prop} {i : Nat}
theorem empty_own : emptyOwn (some (some (.own false (.dict [])))) = true := rfl
theorem ws_grp {p : Nat} {gi : Md (List D)} {gt : D → Env → Option Env} {g0 gk gx : Md D} : Ws (sGrp i gi gt p g0 gk gx) ρ R ↔ Wm gi ρ fun ds ρ1 => emptyOwn ρ1[i]? = true ∧ Wo (grpD gt p g0 gk gx ds [] (ρ1.set i none)) fun r => Wo (canSet r.2[i]?) fun _ => R .nx (r.2.set i (some (.val (.dict r.1)))) := by
  unfold Ws Wm sGrp
  rw [wo_bind]
  refine Iff.of_eq (congrArg _ (funext fun q => ?_))
  try dsimp only
  by_cases h : emptyOwn q.2[i]? = true
  · rw [if_pos h]
    simp only [wo_bind, wo_some, setC_eq, h, true_and]
  · rw [if_neg h, wo_none]
    simp [h]
theorem grp_forA {α : Type} (h : α → D) (E : List α → List (D × D)) (I : List α → Env → Prop) {gt : D → Env → Option Env} {p : Nat} {g0 gk gx : Md D} {Q : List (D × D) × Env → Prop} {xs : List α} (h0 : I [] ρ)
    (st : ∀ (q : List α) (x : α) (r : List α) (ρ : Env), xs = q ++ x :: r → I q ρ → Wo (gt (h x) ρ) fun ρ1 => Wm g0 ρ1 fun k0 ρ2 => Wo (canSet ρ2[p]?) fun _ => Wm gk (ρ2.set p (some (.val k0))) fun k ρ3 => Wm gx ρ3 fun d ρ4 =>
      (keyTup k = true ∧ (nkD k).isSome = true ∧ (E q).length < 16777216 ∧ lenG (E q) k < 16777216) ∧ appG (E q) k d = E (q ++ [x]) ∧ I (q ++ [x]) ρ4)
    (fin : ∀ ρ', I xs ρ' → Q (E xs, ρ')) : Wo (grpD gt p g0 gk gx (xs.map h) (E []) ρ) Q := by
  have go : ∀ (ys q : List α) (ρ : Env), xs = q ++ ys → I q ρ → Wo (grpD gt p g0 gk gx (ys.map h) (E q) ρ) Q := by
    intro ys
    induction ys with
    | nil =>
      intro q ρ e hI
      rw [List.append_nil] at e
      subst e
      exact wo_some.mpr (fin ρ hI)
    | cons x ys ih =>
      intro q ρ e hI
      have s := st q x ys ρ e hI
      show Wo ((gt (h x) ρ).bind fun ρ1 => (g0 ρ1).bind fun q0 => (setC p (.val q0.1) q0.2).bind fun ρ2 => (gk ρ2).bind fun q1 => (gx q1.2).bind fun q2 =>
        if keyTup q1.1 = true ∧ (nkD q1.1).isSome = true ∧ (E q).length < 16777216 ∧ lenG (E q) q1.1 < 16777216 then grpD gt p g0 gk gx (ys.map h) (appG (E q) q1.1 q2.1) q2.2 else none) Q
      unfold Wm at s
      simp only [wo_bind, setC_eq, wo_some]
      refine wo_mono s fun ρ1 s => wo_mono s fun q0 s => wo_mono s fun _ s => wo_mono s fun q1 s => wo_mono s fun q2 s => ?_
      obtain ⟨c, e2, hI2⟩ := s
      rw [if_pos c, e2]
      exact ih (q ++ [x]) _ (by rw [e]; simp) hI2
  exact go xs [] ρ rfl h0
theorem wm_getD {go gk gx : Md D} : Wm (gGetD go gk gx) ρ Q ↔ Wm go ρ fun o ρ1 => Wm gk ρ1 fun k ρ2 => Wm gx ρ2 fun x ρ3 => Wo (getG o k x) fun r => Q r ρ3 := by
  unfold Wm gGetD
  simp only [wo_bind, wo_some]
theorem wm_ind {go gx : Md D} : Wm (gInd go gx) ρ Q ↔ Wm go ρ fun o ρ1 => Wm gx ρ1 fun x ρ2 => Wo (indF o x) fun r => Q r ρ2 := by
  unfold Wm gInd
  simp only [wo_bind, wo_some]
end
theorem add2_ll {xs ys : List D} : addL2 (.list xs) (.list ys) = if xs.length + ys.length ≤ 16777216 then some (.list (xs ++ ys)) else none := rfl
theorem three_c {a b c : D} : three [a, b, c] = some (a, b, c) := rfl
theorem ws_par3 {ρ : Env} {R : Fl → Env → Prop} {i j l : Nat} {gs : Md (List D)} : Ws (sPar3 i j l gs) ρ R ↔ Wm gs ρ fun ds ρ0 => Wo (three ds) fun t => Wo (canSet ρ0[i]?) fun _ => Wo (canSet (ρ0.set i (some (.val t.1)))[j]?) fun _ => Wo (canSet ((ρ0.set i (some (.val t.1))).set j (some (.val t.2.1)))[l]?) fun _ => R .nx (((ρ0.set i (some (.val t.1))).set j (some (.val t.2.1))).set l (some (.val t.2.2))) := by
  unfold Ws Wm sPar3
  simp only [wo_bind, wo_some, setC_eq]
theorem lOwnD_own {b : Bool} {ds : List D} : lOwnD (some (some (.own b (.list ds)))) = some ds := rfl
theorem wm_lcW {ρ : Env} {Q : D → Env → Prop} {i0 : Nat} {vs : List Nat} {gt : D → Env → Option Env} {gc : Md Bool} {ge : Md D} : Wm (gLcW i0 vs gt gc ge) ρ Q ↔ Wo (lOwnD ρ[i0]?) fun ds => (ds.length ≤ 16777216 ∧ vs.all (notOwn ρ) = true ∧ i0 ∉ vs) ∧ Wo (lcW i0 vs gt gc ge ds.length 0 (wipeE ρ vs)) fun r => Q (.list r.1) (backE ρ vs r.2) := by
  unfold Wm gLcW
  rw [wo_bind]
  refine Iff.of_eq (congrArg _ (funext fun ds => ?_))
  by_cases h : ds.length ≤ 16777216 ∧ vs.all (notOwn ρ) = true ∧ i0 ∉ vs
  · rw [if_pos h, wo_bind]
    simp only [wo_some, h, true_and]
    simp
  · rw [if_neg h, wo_none]
    simp only [h, false_and]
theorem lcW_filterA {α : Type} {i0 : Nat} {vs : List Nat} {gt : D → Env → Option Env} {gc : Md Bool} {ge : Md D} (h f : α → D) (p : α → Bool) {ρ : Env} {Q : List D × Env → Prop} {xs : List α} (hρ : lOwnD ρ[i0]? = some (xs.map h))
    (st : ∀ x ∈ xs, Wo (gt (h x) ρ) fun ρ1 => Wm gc ρ1 fun b ρ2 => b = p x ∧ (b = true → Wm ge ρ2 fun y ρ3 => y = f x ∧ wipeE ρ3 vs = ρ) ∧ (b = false → wipeE ρ2 vs = ρ)) (q : Q ((xs.filter p).map f, ρ)) : Wo (lcW i0 vs gt gc ge xs.length 0 ρ) Q := by
  have go : ∀ (n : Nat) (pre ys : List α) (Q : List D × Env → Prop), xs = pre ++ ys → n = ys.length → Q ((ys.filter p).map f, ρ) → Wo (lcW i0 vs gt gc ge n pre.length ρ) Q := by
    intro n
    induction n with
    | zero =>
      intro pre ys Q e hn q
      have : ys = [] := List.eq_nil_of_length_eq_zero hn.symm
      subst this
      show Wo ((lOwnD ρ[i0]?).bind fun ds => if ds.length ≤ pre.length then some ([], ρ) else none) Q
      rw [hρ, Option.bind_some, if_pos (by rw [List.length_map, e]; simp)]
      exact wo_some.mpr q
    | succ n ih =>
      intro pre ys Q e hn q
      cases ys with
      | nil => simp at hn
      | cons x ys =>
        have hd : (xs.map h)[pre.length]? = some (h x) := by rw [List.getElem?_map, e]; simp
        show Wo ((lOwnD ρ[i0]?).bind fun ds => match ds[pre.length]? with
          | none => some ([], ρ)
          | some d => (gt d ρ).bind fun ρ1 => (gc ρ1).bind fun p => if p.1 = true then (ge p.2).bind fun q => (lcW i0 vs gt gc ge n (pre.length + 1) (wipeE q.2 vs)).bind fun r => some (q.1 :: r.1, r.2) else lcW i0 vs gt gc ge n (pre.length + 1) (wipeE p.2 vs)) Q
        rw [hρ, Option.bind_some, hd]
        show Wo ((gt (h x) ρ).bind _) Q
        rw [wo_bind]
        have s := st x (by rw [e]; simp)
        refine wo_mono s fun ρ1 s1 => ?_
        rw [wo_bind]
        refine wo_mono s1 fun c s2 => ?_
        obtain ⟨hb, h1, h2⟩ := s2
        have e2 : (pre ++ [x]).length = pre.length + 1 := by simp
        rw [← e2]
        have e3 : xs = (pre ++ [x]) ++ ys := by rw [e]; simp
        cases hc : c.1 with
        | true =>
          rw [if_pos rfl, wo_bind]
          refine wo_mono (h1 hc) fun y s3 => ?_
          rw [s3.2, wo_bind]
          refine ih (pre ++ [x]) ys _ e3 (by simpa using hn) ?_
          rw [wo_some, s3.1]
          rw [List.filter_cons_of_pos (by rw [← hb, hc])] at q
          exact q
        | false =>
          rw [if_neg (by decide), h2 hc]
          refine ih (pre ++ [x]) ys _ e3 (by simpa using hn) ?_
          rw [List.filter_cons_of_neg (by rw [← hb, hc]; decide)] at q
          exact q
  exact go xs.length [] xs Q rfl rfl q
theorem ix3 {a b c d : D} {r : List D} : ixA (a :: b :: c :: d :: r) 3 = some d := rfl
theorem ix4 {a b c d e : D} {r : List D} : ixA (a :: b :: c :: d :: e :: r) 4 = some e := rfl
theorem ix_m2 (a b c : D) : ixA [a, b, c] (-2) = some b := rfl
theorem ix_m1 (a b c : D) : ixA [a, b, c] (-1) = some c := rfl
theorem ix_p2 (a b : D) : ixA [a, b] (-2) = some a := rfl
theorem ix_p1 (a b : D) : ixA [a, b] (-1) = some b := rfl
end Dm
set_option maxHeartbeats 4000000
/-! plain facts: values, rows, their order, indexes -/
namespace Lw
open PySem Dn Dm
theorem wo_ix {xs : List D} {i : Int} {Q : D → Prop} (h0 : 0 ≤ i) (h1 : i < xs.length) (q : ∀ x ∈ xs, Q x) : Wo (ixA xs i) Q := by
  unfold ixA
  rw [if_pos h0]
  have hl : i.toNat < xs.length := by omega
  rw [List.getElem?_eq_getElem hl, wo_some]
  exact q _ (List.getElem_mem hl)
/-- a value -/
def gv (d : D) : Prop := flatD d = true ∧ SeqAt.shaped d = true
theorem gv_none : gv .none := ⟨rfl, by decide⟩
theorem gv_bool (b : Bool) : gv (.bool b) := ⟨rfl, by cases b <;> decide⟩
theorem gv_int (i : Int) : gv (.int i) := ⟨rfl, by simp [SeqAt.shaped, PyData.canLay0, PyData.depth]⟩
theorem eqT_int (a b : Int) : eqT (.int a) (.int b) = some (decide (a = b)) := rfl
theorem eqT_str (a b : Str) : eqT (.str a) (.str b) = some (decide (a = b)) := rfl
theorem eqT_bool (a b : Bool) : eqT (.bool a) (.bool b) = some (decide (a = b)) := rfl
theorem ltT_int (a b : Int) : ltT (.int a) (.int b) = some (decide (a < b)) := rfl
theorem ltT_str (a b : Str) : ltT (.str a) (.str b) = some (decide (a.cps.toList < b.cps.toList)) := rfl
/-! ### the start of a draw -/
theorem log_ok {i j : Int} (a b : Nat) (ha : i.natAbs < 2 ^ a) (hb : j.natAbs < 2 ^ b) (h : a + b + 2 ≤ 1000000) : i.natAbs.log2 + j.natAbs.log2 < 1000000 := by
  have l : ∀ (n k : Nat), n < 2 ^ k → n.log2 ≤ k := fun n k h => by
    by_cases z : n = 0
    · subst z; simp
    · exact Nat.le_of_lt ((Nat.log2_lt z).mpr h)
  have h1 := l _ _ ha
  have h2 := l _ _ hb
  omega
theorem nab {m : Int} {b : Nat} (h0 : 0 ≤ m) (h : m < 2 ^ b) : m.natAbs < 2 ^ b := by
  have h2 : ((m.natAbs : Nat) : Int) = m := Int.natAbs_of_nonneg h0
  have h3 : ((m.natAbs : Nat) : Int) < ((2 ^ b : Nat) : Int) := by
    rw [h2]
    push_cast
    exact h
  exact Int.ofNat_lt.mp h3
/-! ### the order of values and of rows -/
def rk : D → Int
  | .none => 0
  | .bool b => 1 + (if b then 1 else 0)
  | .int _ => 3
  | _ => 4
def ltV (a b : D) : Bool := if rk a ≠ rk b then decide (rk a < rk b) else match a, b with
  | .int i, .int j => decide (i < j)
  | .str x, .str y => decide (x.cps.toList < y.cps.toList)
  | _, _ => false
def vo : D → D
  | .none => .tuple [.int 0, .int 0]
  | .bool b => .tuple [.int 1, .int (if b then 1 else 0)]
  | .int i => .tuple [.int 2, .int i]
  | d => .tuple [.int 3, d]
theorem gv_cases {d : D} (h : gv d) : d = .none ∨ (∃ b, d = .bool b) ∨ (∃ i, d = .int i) ∨ ∃ s, d = .str s := by
  cases d with
  | none => exact .inl rfl
  | bool b => exact .inr (.inl ⟨b, rfl⟩)
  | int i => exact .inr (.inr (.inl ⟨i, rfl⟩))
  | str s => exact .inr (.inr (.inr ⟨s, rfl⟩))
  | list _ => cases h.1
  | tuple _ => cases h.1
  | dict _ => cases h.1
theorem ltV_irr {a : D} (ha : gv a) : ltV a a = false := by
  unfold ltV
  rcases gv_cases ha with rfl | ⟨p, rfl⟩ | ⟨i, rfl⟩ | ⟨s, rfl⟩ <;> simp
theorem gv5 {d : D} (h : gv d) : d = .none ∨ d = .bool true ∨ d = .bool false ∨ (∃ i, d = .int i) ∨ ∃ s, d = .str s := by
  rcases gv_cases h with rfl | ⟨b, rfl⟩ | h | h
  · exact .inl rfl
  · cases b
    · exact .inr (.inr (.inl rfl))
    · exact .inr (.inl rfl)
  · exact .inr (.inr (.inr (.inl h)))
  · exact .inr (.inr (.inr (.inr h)))
theorem str_tri (s t : Str) : (s == t) = (!decide (s.cps.toList < t.cps.toList) && !decide (t.cps.toList < s.cps.toList)) := by
  by_cases h : s = t
  · subst h
    have : ¬ (s.cps.toList < s.cps.toList) := List.lt_irrefl _
    simp only [beq_self_eq_true, this, decide_false, Bool.not_false, Bool.and_self]
  · have h1 : (s == t) = false := by simpa using h
    rw [h1]
    by_cases h2 : s.cps.toList < t.cps.toList
    · simp only [h2, decide_true, Bool.not_true, Bool.false_and]
    · by_cases h3 : t.cps.toList < s.cps.toList
      · simp only [h3, decide_true, Bool.not_true, Bool.and_false]
      · exact absurd (PySem.W.str_of_cps (List.le_antisymm (List.not_lt.mp h3) (List.not_lt.mp h2))) h
/-- the same -/
theorem eqv_vo {a b : D} (ha : gv a) (hb : gv b) : PyData.eqv (vo a) (vo b) = (!ltV a b && !ltV b a) := by
  rcases gv5 ha with rfl | rfl | rfl | ⟨i, rfl⟩ | ⟨s, rfl⟩ <;> rcases gv5 hb with rfl | rfl | rfl | ⟨j, rfl⟩ | ⟨t, rfl⟩ <;> simp only [vo, PyData.eqv, PyData.eqvAll, ltV, rk] <;> first | rfl | skip
  · simp only [ne_eq, not_true_eq_false, ↓reduceIte, Bool.and_true, beq_self_eq_true, Bool.true_and]
    rw [Bool.eq_iff_iff]
    simp
    omega
  · simp only [ne_eq, not_true_eq_false, ↓reduceIte, Bool.and_true, beq_self_eq_true, Bool.true_and]
    exact str_tri s t
theorem ltB_vo {a b : D} (ha : gv a) (hb : gv b) (h : PyData.eqv (vo a) (vo b) = false) : DnLt.ltB (vo a) (vo b) = some (ltV a b) := by
  rcases gv5 ha with rfl | rfl | rfl | ⟨i, rfl⟩ | ⟨s, rfl⟩ <;> rcases gv5 hb with rfl | rfl | rfl | ⟨j, rfl⟩ | ⟨t, rfl⟩ <;> simp only [vo, PyData.eqv, PyData.eqvAll, ltV, rk, DnLt.ltB, DnLt.ltA] at h ⊢ <;> first | rfl | (exact absurd h (by decide)) | skip
  · simp only [beq_self_eq_true, ↓reduceIte, ne_eq, not_true_eq_false, Bool.and_true, Bool.true_and] at h ⊢
    exact if_neg (by rw [h]; decide)
  · simp only [beq_self_eq_true, ↓reduceIte, ne_eq, not_true_eq_false, Bool.and_true, Bool.true_and] at h ⊢
    exact if_neg (by rw [h]; decide)
/-- rows -/
def ltR : List D → List D → Bool
  | [], [] => false
  | [], _ :: _ => true
  | _ :: _, [] => false
  | x :: xs, y :: ys => if ltV x y = true then true else if ltV y x = true then false else ltR xs ys
theorem ltA_vo : ∀ {xs ys : List D}, (∀ v ∈ xs, gv v) → (∀ v ∈ ys, gv v) → DnLt.ltA (xs.map vo) (ys.map vo) = some (ltR xs ys)
  | [], [], _, _ => rfl
  | [], _ :: _, _, _ => rfl
  | _ :: _, [], _, _ => rfl
  | x :: xs, y :: ys, hx, hy => by
    have gx := hx x List.mem_cons_self
    have gy := hy y List.mem_cons_self
    have ih := ltA_vo (xs := xs) (ys := ys) (fun v hv => hx v (List.mem_cons_of_mem _ hv)) fun v hv => hy v (List.mem_cons_of_mem _ hv)
    rw [List.map_cons, List.map_cons, DnLt.ltA, ltR, ih]
    have e := eqv_vo gx gy
    cases h : PyData.eqv (vo x) (vo y) with
    | true =>
      rw [h] at e
      have e2 : ltV x y = false ∧ ltV y x = false := by simpa using e.symm
      simp [e2.1, e2.2]
    | false =>
      rw [h] at e
      rw [if_neg (by decide), ltB_vo gx gy h]
      cases h1 : ltV x y with
      | true => simp
      | false =>
        rw [h1] at e
        have e2 : ltV y x = true := by simpa using e.symm
        simp [e2]
theorem eqvAll_vo : ∀ {xs ys : List D}, (∀ v ∈ xs, gv v) → (∀ v ∈ ys, gv v) → PyData.eqvAll (xs.map vo) (ys.map vo) = (!ltR xs ys && !ltR ys xs)
  | [], [], _, _ => by simp [PyData.eqvAll, ltR]
  | [], _ :: _, _, _ => by simp [PyData.eqvAll, ltR]
  | _ :: _, [], _, _ => by simp [PyData.eqvAll, ltR]
  | x :: xs, y :: ys, hx, hy => by
    have gx := hx x List.mem_cons_self
    have gy := hy y List.mem_cons_self
    have ih := eqvAll_vo (xs := xs) (ys := ys) (fun v hv => hx v (List.mem_cons_of_mem _ hv)) fun v hv => hy v (List.mem_cons_of_mem _ hv)
    have e := eqv_vo gx gy
    rw [List.map_cons, List.map_cons, PyData.eqvAll, ltR, ltR, ih, e]
    cases h1 : ltV x y <;> cases h2 : ltV y x <;> simp
theorem shaped_row {xs : List D} (h : ∀ v ∈ xs, gv v) : SeqAt.shaped (.tuple (xs.map vo)) = true := by
  have h1 : ∀ {xs : List D}, (∀ v ∈ xs, gv v) → PyData.canLayAll0 (xs.map vo) = true ∧ PyData.depthAll (xs.map vo) ≤ 1 := by
    intro xs
    induction xs with
    | nil => exact fun _ => ⟨rfl, by decide⟩
    | cons x xs ih =>
      intro h
      obtain ⟨i1, i2⟩ := ih fun v hv => h v (List.mem_cons_of_mem _ hv)
      have gx := h x List.mem_cons_self
      have z : (vo x).canLay0 = true ∧ (vo x).depth ≤ 1 := by
        rcases gv_cases gx with rfl | ⟨b, rfl⟩ | ⟨i, rfl⟩ | ⟨s, rfl⟩
        · exact ⟨by simp [vo, PyData.canLay0, PyData.canLayAll0], by simp [vo, PyData.depth, PyData.depthAll]⟩
        · exact ⟨by simp [vo, PyData.canLay0, PyData.canLayAll0], by simp [vo, PyData.depth, PyData.depthAll]⟩
        · exact ⟨by simp [vo, PyData.canLay0, PyData.canLayAll0], by simp [vo, PyData.depth, PyData.depthAll]⟩
        · have hs : (PyData.str s).canLay0 = true := SeqAt.canLay_of_shaped gx.2
          exact ⟨by simpa [vo, PyData.canLay0, PyData.canLayAll0] using hs, by simp [vo, PyData.depth, PyData.depthAll]⟩
      rw [List.map_cons, PyData.canLayAll0, PyData.depthAll, z.1, i1]
      exact ⟨rfl, by omega⟩
  obtain ⟨h2, h3⟩ := h1 h
  unfold SeqAt.shaped
  rw [PyData.canLay0, PyData.depth, h2]
  simp
  omega
theorem shaped_vo {a : D} (h : gv a) : SeqAt.shaped (vo a) = true := by
  rcases gv_cases h with rfl | ⟨b, rfl⟩ | ⟨i, rfl⟩ | ⟨s, rfl⟩
  · simp [vo, SeqAt.shaped, PyData.canLay0, PyData.canLayAll0, PyData.depth, PyData.depthAll]
  · simp [vo, SeqAt.shaped, PyData.canLay0, PyData.canLayAll0, PyData.depth, PyData.depthAll]
  · simp [vo, SeqAt.shaped, PyData.canLay0, PyData.canLayAll0, PyData.depth, PyData.depthAll]
  · have hs : (PyData.str s).canLay0 = true := SeqAt.canLay_of_shaped h.2
    simpa [vo, SeqAt.shaped, PyData.canLay0, PyData.canLayAll0, PyData.depth, PyData.depthAll] using hs
theorem vo_tup (a : D) : ∃ ds, vo a = .tuple ds := by cases a <;> exact ⟨_, rfl⟩
theorem eqT_tt {xs ys : List D} (h1 : SeqAt.shaped (.tuple xs) = true) (h2 : SeqAt.shaped (.tuple ys) = true) : eqT (.tuple xs) (.tuple ys) = some (PyData.eqv (.tuple xs) (.tuple ys)) := by
  show (if _ then _ else _) = _
  rw [if_pos ⟨h1, h2⟩]
theorem ltT_tt {xs ys : List D} (h1 : SeqAt.shaped (.tuple xs) = true) (h2 : SeqAt.shaped (.tuple ys) = true) : ltT (.tuple xs) (.tuple ys) = DnLt.ltB (.tuple xs) (.tuple ys) := by
  show (if _ then _ else _) = _
  rw [if_pos ⟨h1, h2⟩]
theorem eqT_vo {a b : D} (ha : gv a) (hb : gv b) : eqT (vo a) (vo b) = some (!ltV a b && !ltV b a) := by
  obtain ⟨xs, e1⟩ := vo_tup a
  obtain ⟨ys, e2⟩ := vo_tup b
  have h1 := shaped_vo ha
  have h2 := shaped_vo hb
  have h3 := eqv_vo ha hb
  rw [e1] at h1 h3 ⊢
  rw [e2] at h2 h3 ⊢
  rw [eqT_tt h1 h2, h3]
theorem ltA_eq : ∀ xs ys : List D, PyData.eqvAll xs ys = true → DnLt.ltA xs ys = some false
  | [], [], _ => rfl
  | [], _ :: _, h => by simp [PyData.eqvAll] at h
  | _ :: _, [], h => by simp [PyData.eqvAll] at h
  | x :: xs, y :: ys, h => by
    rw [PyData.eqvAll, Bool.and_eq_true] at h
    rw [DnLt.ltA, if_pos h.1]
    exact ltA_eq xs ys h.2
theorem ltT_vo {a b : D} (ha : gv a) (hb : gv b) : ltT (vo a) (vo b) = some (ltV a b) := by
  have h4 : DnLt.ltB (vo a) (vo b) = some (ltV a b) := by
    have h3 := eqv_vo ha hb
    cases h : PyData.eqv (vo a) (vo b) with
    | false => exact ltB_vo ha hb h
    | true =>
      rw [h] at h3
      have e2 : ltV a b = false ∧ ltV b a = false := by simpa using h3.symm
      rw [e2.1]
      obtain ⟨xs, e3⟩ := vo_tup a
      obtain ⟨ys, e4⟩ := vo_tup b
      rw [e3, e4] at h ⊢
      rw [PyData.eqv] at h
      rw [DnLt.ltB]
      exact ltA_eq xs ys h
  obtain ⟨xs, e1⟩ := vo_tup a
  obtain ⟨ys, e2⟩ := vo_tup b
  have h1 := shaped_vo ha
  have h2 := shaped_vo hb
  rw [e1] at h1 h4 ⊢
  rw [e2] at h2 h4 ⊢
  rw [ltT_tt h1 h2, h4]
theorem ixA_nat {α : Type} (xs : List α) (i : Nat) : ixA xs (i : Int) = xs[i]? := by
  unfold ixA
  rw [if_pos (Int.natCast_nonneg i)]
  rfl
theorem rng_eq (n : Nat) : rngL 0 n = (List.range' 0 n).map fun i : Nat => PyData.int i := by
  unfold rngL
  rw [List.range_eq_range']
  exact List.map_congr_left fun i _ => by rw [Int.zero_add]
theorem small_nat {n : Nat} (h : n ≤ 1000000000) : small62 (n : Int) = true := by
  unfold small62
  exact decide_eq_true ⟨by omega, by omega⟩
/-- a row of values -/
def gr (r : D) : Prop := ∃ xs, r = .tuple xs ∧ xs.length ≤ 1000 ∧ ∀ v ∈ xs, gv v
theorem cut_mem {α : Type} {xs : List α} {l h : Option Int} {v : α} (hv : v ∈ cutA xs l h) : v ∈ xs := List.mem_of_mem_drop (List.mem_of_mem_take hv)
theorem cut_len {α : Type} (xs : List α) (l h : Option Int) : (cutA xs l h).length ≤ xs.length := by
  unfold cutA
  rw [List.length_take, List.length_drop]
  omega
end Lw
set_option maxHeartbeats 4000000
/-! fields, types, places -/
namespace Lw
open PySem Dn Dm
/-- the three types -/
def kd (k : Str) : Prop := k = "flag" ∨ k = "whole" ∨ k = "text"
def tyB (k : Str) : D → Bool
  | .none => true
  | .bool _ => decide (k = "flag")
  | .int _ => decide (k = "whole")
  | .str _ => decide (k = "text")
  | _ => false
def tyV : D → D
  | .none => .none
  | .bool _ => .str "flag"
  | .int _ => .str "whole"
  | _ => .str "text"
/-- a text that may stand in a value -/
def signOk (c : Nat) : Bool := decide ((32 ≤ c ∧ c ≤ 126) ∧ c ≠ 37)
def textB (s : Str) : Bool := decide (s.length ≤ 40) && s.cps.toList.all signOk
/-- a value of the document -/
def isV : D → Bool
  | .none => true
  | .bool _ => true
  | .int i => decide (-1000000000 ≤ i ∧ i ≤ 1000000000)
  | .str s => textB s
  | _ => false
theorem isV_int {i : Int} (h : -1000000000 ≤ i ∧ i ≤ 1000000000) : isV (.int i) = true := decide_eq_true h
/-- a field -/
def fdD (p : Str × Str) : D := .tuple [.str p.1, .str p.2]
theorem fdD_inj : ∀ {as bs : List (Str × Str)}, as.map fdD = bs.map fdD → as = bs
  | [], [], _ => rfl
  | [], _ :: _, h => (by cases h)
  | _ :: _, [], h => (by cases h)
  | (a, b) :: as, (c, d) :: bs, h => by
    rw [List.map_cons, List.map_cons] at h
    injection h with h1 h2
    simp only [fdD, PyData.tuple.injEq, List.cons.injEq, PyData.str.injEq, and_true] at h1
    rw [h1.1, h1.2, fdD_inj h2]
def fitsB : List D → List (Str × Str) → Bool
  | [], [] => true
  | v :: vs, p :: ps => tyB p.2 v && fitsB vs ps
  | _, _ => false
def colAt : Nat → List (Str × Str) → Str → D
  | _, [], _ => .none
  | i, p :: ps, x => if p.1 = x then .int i else colAt (i + 1) ps x
theorem fits_len : ∀ {vs : List D} {ps : List (Str × Str)}, fitsB vs ps = true → vs.length = ps.length
  | [], [], _ => rfl
  | _ :: vs, _ :: ps, h => congrArg (· + 1) (fits_len (Bool.and_eq_true_iff.mp h).2)
  | [], _ :: _, h => (by cases h)
  | _ :: _, [], h => (by cases h)
theorem fits_snoc : ∀ {vs : List D} {ps : List (Str × Str)} {v : D} {p : Str × Str}, fitsB vs ps = true → tyB p.2 v = true → fitsB (vs ++ [v]) (ps ++ [p]) = true
  | [], [], v, p, _, h => by simp [fitsB, h]
  | w :: vs, q :: ps, v, p, g, h => by
    have g' := Bool.and_eq_true_iff.mp g
    exact Bool.and_eq_true_iff.mpr ⟨g'.1, fits_snoc g'.2 h⟩
  | [], _ :: _, _, _, h, _ => (by cases h)
  | _ :: _, [], _, _, h, _ => (by cases h)
theorem fits_get : ∀ {vs : List D} {ps : List (Str × Str)} {i : Nat} {v : D} {p : Str × Str}, fitsB vs ps = true → vs[i]? = some v → ps[i]? = some p → tyB p.2 v = true
  | v :: vs, p :: ps, 0, _, _, h, e1, e2 => by
    cases e1
    cases e2
    exact (Bool.and_eq_true_iff.mp h).1
  | _ :: vs, _ :: ps, i + 1, _, _, h, e1, e2 => fits_get (i := i) (Bool.and_eq_true_iff.mp h).2 e1 e2
  | [], _, _, _, _, _, e1, _ => (by simp at e1)
  | _ :: _, [], _, _, _, _, _, e2 => (by simp at e2)
/-- one value exchanged -/
theorem fits_swap : ∀ {vs : List D} {ps : List (Str × Str)} {i : Nat} {v : D} {p : Str × Str}, fitsB vs ps = true → ps[i]? = some p → fitsB (vs.take i ++ [v] ++ vs.drop (i + 1)) ps = tyB p.2 v
  | w :: vs, p :: ps, 0, v, _, h, e => by
    cases e
    have h' := (Bool.and_eq_true_iff.mp h).2
    simp [fitsB, h']
  | w :: vs, q :: ps, i + 1, v, p, h, e => by
    have h' := Bool.and_eq_true_iff.mp h
    have ih := fits_swap (i := i) (v := v) h'.2 e
    simp only [List.take_succ_cons, List.drop_succ_cons, List.cons_append, fitsB, h'.1, Bool.true_and]
    exact ih
  | [], [], _, _, _, _, e => (by simp at e)
  | [], _ :: _, _, _, _, h, _ => (by cases h)
  | _ :: _, [], _, _, _, h, _ => (by cases h)
theorem cut_take {α : Type} (xs : List α) (i : Nat) : cutA xs none (some (i : Int)) = xs.take i := by
  unfold cutA
  rw [HT.sIx_none, HT.sIx_nat, List.drop_zero, Nat.sub_zero]
  rw [List.take_eq_take_iff]
  omega
theorem cut_drop {α : Type} (xs : List α) (i : Nat) : cutA xs (some (i : Int)) none = xs.drop i := by
  unfold cutA
  rw [HT.sIx_none, HT.sIx_nat]
  rw [List.take_of_length_le (by rw [List.length_drop]; omega)]
  by_cases h : i ≤ xs.length
  · rw [Nat.min_eq_left h]
  · rw [Nat.min_eq_right (by omega), List.drop_length, List.drop_eq_nil_of_le (by omega)]
/-- how often: min(M, max(1, l)) -/
theorem times {l m : Nat} {M : Int} (hM : M = m) (h1 : 1 ≤ m) : ∃ n : Nat, (if (if (l : Int) > 1 then (l : Int) else 1) < M then (if (l : Int) > 1 then (l : Int) else 1) else M) = (n : Int) ∧ n ≤ m := by
  subst hM
  by_cases h1 : (l : Int) > 1
  · by_cases h2 : (l : Int) < m
    · exact ⟨l, by simp only [h1, h2, ↓reduceIte], by omega⟩
    · exact ⟨m, by simp only [h1, h2, ↓reduceIte], by omega⟩
  · by_cases h2 : (1 : Int) < m
    · exact ⟨1, by simp only [h1, h2, ↓reduceIte]; rfl, by omega⟩
    · exact ⟨m, by simp only [h1, h2, ↓reduceIte], by omega⟩
theorem cut_drop1 {α : Type} (xs : List α) (i : Nat) : cutA xs (some ((i : Int) + 1)) none = xs.drop (i + 1) := cut_drop xs (i + 1)
theorem cut_take1 {α : Type} (xs : List α) (i : Nat) : cutA xs none (some (1 + (i : Int))) = xs.take (1 + i) := by
  have := cut_take xs (1 + i)
  rwa [Int.natCast_add] at this
/-- a remainder as a number of places -/
theorem modN (s : Int) {m : Int} (h : 0 < m) : ∃ k : Nat, s % m = (k : Int) ∧ (k : Int) < m := ⟨(s % m).toNat, by have := Int.emod_nonneg s (show m ≠ 0 by omega); omega, by have := Int.emod_nonneg s (show m ≠ 0 by omega); have := Int.emod_lt_of_pos s h; omega⟩
theorem kinds_ok {x : D} (h : x ∈ ([.str "flag", .str "whole", .str "text"] : List D)) : ∃ k, x = .str k ∧ kd k := by
  simp only [List.mem_cons, List.not_mem_nil, or_false] at h
  rcases h with rfl | rfl | rfl
  · exact ⟨_, rfl, .inl rfl⟩
  · exact ⟨_, rfl, .inr (.inl rfl)⟩
  · exact ⟨_, rfl, .inr (.inr rfl)⟩
theorem rng_mem {n : Nat} : ∀ d ∈ rngL 0 n, ∃ i : Nat, d = .int i ∧ i < n := fun d hd => by
  rw [rng_eq] at hd
  obtain ⟨i, hi, rfl⟩ := List.mem_map.mp hd
  exact ⟨i, rfl, by simpa using hi⟩
theorem rng_len {n : Nat} {lo : Int} : (rngL lo n).length = n := by simp [rngL]
theorem col_at : ∀ {ps : List (Str × Str)} {i j : Nat} {p : Str × Str}, (ps.map (·.1)).Nodup → ps[j]? = some p → colAt i ps p.1 = .int (i + j : Nat)
  | q :: ps, i, 0, p, _, e => by
    cases e
    rw [colAt, if_pos rfl]
    rfl
  | q :: ps, i, j + 1, p, h, e => by
    rw [List.map_cons, List.nodup_cons] at h
    have e' : ps[j]? = some p := e
    have hm : p.1 ∈ ps.map (·.1) := List.mem_map.mpr ⟨p, List.mem_of_getElem? e', rfl⟩
    rw [colAt, if_neg (fun z => h.1 (by rw [z]; exact hm)), col_at h.2 e']
    have e3 : i + 1 + j = i + (j + 1) := by omega
    rw [e3]
  | [], _, _, _, _, e => (by simp at e)
theorem col_none : ∀ {ps : List (Str × Str)} {i : Nat} {x : Str}, x ∉ ps.map (·.1) → colAt i ps x = .none
  | [], _, _, _ => rfl
  | p :: ps, i, x, h => by
    rw [List.map_cons, List.mem_cons, not_or] at h
    rw [colAt, if_neg (fun z => h.1 z.symm), col_none h.2]
theorem ltV_eq {a b : D} (ha : gv a) (hb : gv b) (h1 : ltV a b = false) (h2 : ltV b a = false) : a = b := by
  unfold ltV at h1 h2
  rcases gv5 ha with rfl | rfl | rfl | ⟨i, rfl⟩ | ⟨s, rfl⟩ <;> rcases gv5 hb with rfl | rfl | rfl | ⟨j, rfl⟩ | ⟨t, rfl⟩ <;> first | rfl | (exfalso; revert h1 h2; simp [rk]; done) | skip
  · simp only [rk, ne_eq, not_true_eq_false, ↓reduceIte, decide_eq_false_iff_not] at h1 h2
    rw [show i = j by omega]
  · simp only [rk, ne_eq, not_true_eq_false, ↓reduceIte, decide_eq_false_iff_not] at h1 h2
    rw [PySem.W.str_of_cps (List.le_antisymm (List.not_lt.mp h2) (List.not_lt.mp h1))]
theorem ltR_irr : ∀ {xs : List D}, (∀ v ∈ xs, gv v) → ltR xs xs = false
  | [], _ => rfl
  | x :: xs, h => by
    rw [ltR, ltV_irr (h x List.mem_cons_self), ltR_irr fun v hv => h v (List.mem_cons_of_mem _ hv)]
    rfl
theorem ltR_eq : ∀ {xs ys : List D}, (∀ v ∈ xs, gv v) → (∀ v ∈ ys, gv v) → ltR xs ys = false → ltR ys xs = false → xs = ys
  | [], [], _, _, _, _ => rfl
  | [], _ :: _, _, _, h, _ => (by cases h)
  | _ :: _, [], _, _, _, h => (by cases h)
  | x :: xs, y :: ys, hx, hy, h1, h2 => by
    rw [ltR] at h1 h2
    have gx := hx x List.mem_cons_self
    have gy := hy y List.mem_cons_self
    cases q1 : ltV x y with
    | true => rw [q1] at h1; cases h1
    | false =>
      cases q2 : ltV y x with
      | true => rw [q2] at h2; cases h2
      | false =>
        rw [q1, q2] at h1 h2
        rw [ltV_eq gx gy q1 q2, ltR_eq (fun v hv => hx v (List.mem_cons_of_mem _ hv)) (fun v hv => hy v (List.mem_cons_of_mem _ hv)) h1 h2]
theorem small_log {i j : Int} (hi : -1000000 ≤ i ∧ i ≤ 1000000) (hj : -1000000 ≤ j ∧ j ≤ 1000000) : i.natAbs.log2 + j.natAbs.log2 < 1000000 := log_ok 20 20 (by omega) (by omega) (by decide)
/-- a pair of whole numbers -/
def prD (p : Int × Int) : D := .tuple [.int p.1, .int p.2]
theorem shaped_pr (p : Int × Int) : SeqAt.shaped (prD p) = true := by simp [SeqAt.shaped, prD, PyData.canLay0, PyData.canLayAll0, PyData.depth, PyData.depthAll]
theorem prs_all : ∀ ps : List (Int × Int), PyData.canLayAll0 (ps.map prD) = true ∧ PyData.depthAll (ps.map prD) ≤ 1
  | [] => ⟨rfl, by decide⟩
  | p :: ps => by
    obtain ⟨h1, h2⟩ := prs_all ps
    refine ⟨?_, ?_⟩
    · simp [PyData.canLayAll0, h1, prD, PyData.canLay0]
    · simp only [List.map_cons, PyData.depthAll, prD, PyData.depth] at h2 ⊢
      omega
theorem shaped_prs (ps : List (Int × Int)) : SeqAt.shaped (.list (ps.map prD)) = true := by
  obtain ⟨h1, h2⟩ := prs_all ps
  unfold SeqAt.shaped
  rw [PyData.canLay0, PyData.depth, h1]
  simp
  omega
theorem eqv_pr (p q : Int × Int) : PyData.eqv (prD p) (prD q) = decide (p = q) := by
  obtain ⟨a, b⟩ := p
  obtain ⟨c, d⟩ := q
  simp only [prD, PyData.eqv, PyData.eqvAll, Bool.and_true]
  by_cases h1 : a = c
  · by_cases h2 : b = d <;> simp [h1, h2]
  · simp [h1]
theorem in_prs (p : Int × Int) (ps : List (Int × Int)) : inT (prD p) (.list (ps.map prD)) = some (decide (p ∈ ps)) := by
  show (if SeqAt.shaped (prD p) = true ∧ SeqAt.shaped (.list (ps.map prD)) = true then some ((ps.map prD).any fun z => PyData.eqv z (prD p)) else none) = _
  rw [if_pos ⟨shaped_pr p, shaped_prs ps⟩]
  congr 1
  induction ps with
  | nil => rfl
  | cons q ps ih =>
    rw [List.map_cons, List.any_cons, ih, eqv_pr]
    by_cases h : q = p
    · simp [h]
    · simp [h, Ne.symm h]
theorem eq_prs (ps : List (Int × Int)) : eqT (.list (ps.map prD)) (.list (ps.map prD)) = some true := by
  have h : PyData.eqvAll (ps.map prD) (ps.map prD) = true := by
    induction ps with
    | nil => rfl
    | cons q ps ih => rw [List.map_cons, PyData.eqvAll, ih, eqv_pr]; simp
  show (if SeqAt.shaped (.list (ps.map prD)) = true ∧ SeqAt.shaped (.list (ps.map prD)) = true then some (PyData.eqv (.list (ps.map prD)) (.list (ps.map prD))) else none) = _
  rw [if_pos ⟨shaped_prs ps, shaped_prs ps⟩, PyData.eqv, h]
open DnSo in
theorem sortOk_prs (ps : List (Int × Int)) (h : ps.length ≤ 16777216) : sortOk (ps.map prD) = true := by
  have hc : ∀ a b : Int × Int, (DnLt.ltB (prD a) (prD b)).isSome = true := by
    rintro ⟨a, b⟩ ⟨c, d⟩
    simp only [prD, DnLt.ltB, DnLt.ltA, PyData.eqv]
    by_cases h1 : a = c
    · by_cases h2 : b = d <;> simp [h1, h2]
    · simp [h1]
  unfold sortOk
  simp only [Bool.and_eq_true, List.all_eq_true, decide_eq_true_eq, Bool.or_eq_true, List.length_map, List.mem_map]
  refine ⟨⟨⟨h, ?_⟩, ?_⟩, .inl (.inl ?_)⟩
  · rintro d ⟨p, _, rfl⟩
    exact ⟨⟨rfl, by simp [prD, PyData.canLay0, PyData.canLayAll0]⟩, by simp [prD, PyData.depth, PyData.depthAll]⟩
  · rintro d ⟨p, _, rfl⟩ e ⟨q, _, rfl⟩
    exact hc p q
  · rintro d ⟨p, _, rfl⟩
    rfl
open DnSo in
theorem sort_prs {ps qs : List (Int × Int)} (hp : qs.Perm ps) (hs : qs.Pairwise fun x y => x.1 < y.1) : (ps.map prD).mergeSort leD3 = qs.map prD := by
  refine (sort_one (ds := ps.map prD) (out := qs.map prD) (fun d hd => ?_) (hp.map prD) (List.pairwise_map.mpr (hs.imp fun {x y} h => ?_))).symm
  · obtain ⟨p, _, rfl⟩ := List.mem_map.mp hd
    rfl
  · simp only [prD, cmp3, cmpL]
    rw [if_neg (by omega), if_pos h]
    rfl
open DnSo in
theorem sortOk_ints (ns : List Int) (h : ns.length ≤ 16777216) : sortOk (ns.map PyData.int) = true := by
  unfold sortOk
  simp only [Bool.and_eq_true, List.all_eq_true, decide_eq_true_eq, Bool.or_eq_true, List.length_map, List.mem_map]
  refine ⟨⟨⟨h, ?_⟩, ?_⟩, .inr ?_⟩
  · rintro d ⟨p, _, rfl⟩
    exact ⟨⟨rfl, rfl⟩, by simp [PyData.depth]⟩
  · rintro d ⟨p, _, rfl⟩ e ⟨q, _, rfl⟩
    rfl
  · rintro d ⟨p, _, rfl⟩
    rfl
open DnSo in
/-- sorted whole numbers: the same numbers in order -/
theorem sort_ints (ns : List Int) : ∃ ms : List Int, (ns.map PyData.int).mergeSort leD3 = ms.map PyData.int ∧ ms.Perm ns ∧ ms.Pairwise (· ≤ ·) := by
  refine ⟨ns.mergeSort fun a b => decide (a ≤ b), ?_, List.mergeSort_perm _ _, ?_⟩
  · refine (sort_one (ds := ns.map PyData.int) (fun d hd => ?_) ((List.mergeSort_perm _ _).map PyData.int) (List.pairwise_map.mpr ((List.pairwise_mergeSort (le := fun a b : Int => decide (a ≤ b)) ?_ ?_ ns).imp fun {x y} h => ?_))).symm
    · obtain ⟨p, _, rfl⟩ := List.mem_map.mp hd
      rfl
    · intro a b c h1 h2
      simp at h1 h2 ⊢
      omega
    · intro a b
      simp
      omega
    · have h' : x ≤ y := of_decide_eq_true h
      simp only [cmp3]
      rw [if_neg (by omega)]
      split <;> rfl
  · refine (List.pairwise_mergeSort (le := fun a b : Int => decide (a ≤ b)) ?_ ?_ ns).imp fun {x y} h => of_decide_eq_true h
    · intro a b c h1 h2
      simp at h1 h2 ⊢
      omega
    · intro a b
      simp
      omega
theorem ixA_last {α : Type} (xs : List α) (x : α) : ixA (xs ++ [x]) (-1) = some x := by
  unfold ixA
  rw [if_neg (by decide), if_pos (by simp; omega)]
  have e : (-1 + ((xs ++ [x]).length : Int)).toNat = xs.length := by simp; omega
  rw [e]
  simp
end Lw
set_option maxHeartbeats 4000000
/-! data that can be shown; sums; the first of the least -/
namespace Lw
open PySem Dn Dm
mutual
/-- small leaves -/
def smD : D → Bool
  | .none => true
  | .bool _ => true
  | .int i => decide (i.natAbs < 1000000000000)
  | .str s => PyData.strOk s && decide (s.length ≤ 100) && s.cps.toList.all fun c => decide (c < 16 ^ 8)
  | .list xs => smL xs
  | .tuple xs => smL xs
  | .dict _ => false
def smL : List D → Bool
  | [] => true
  | x :: xs => smD x && smL xs
end
mutual
def nodes : D → Nat
  | .list xs => nodesL xs
  | .tuple xs => nodesL xs
  | _ => 1
def nodesL : List D → Nat
  | [] => 0
  | x :: xs => nodes x + 1 + nodesL xs
end
theorem int_log {i : Int} (h : i.natAbs < 1000000000000) : i.natAbs.log2 < 60 := by
  by_cases z : i.natAbs = 0
  · rw [z]; decide
  · exact (Nat.log2_lt z).mpr (by omega)
mutual
theorem sm_ok : ∀ d : D, smD d = true → d.canLay0 = true ∧ PyData.showable d = true ∧ PyData.leavesShort 13 d = true ∧ d.weight ≤ 101 * nodes d
  | .none, _ => ⟨rfl, rfl, rfl, by simp [PyData.weight, nodes]⟩
  | .bool _, _ => ⟨rfl, rfl, rfl, by simp [PyData.weight, nodes]⟩
  | .int i, h => by
    have h' : i.natAbs < 1000000000000 := by simpa [smD] using h
    have hl := int_log h'
    refine ⟨rfl, ?_, ?_, ?_⟩
    · simp only [PyData.showable, decide_eq_true_eq]
      omega
    · simp only [PyData.leavesShort, decide_eq_true_eq]
      exact PyData.shown_int_le (by omega)
    · simp only [PyData.weight, nodes]
      split <;> omega
  | .str s, h => by
    simp only [smD, Bool.and_eq_true, decide_eq_true_eq] at h
    refine ⟨?_, rfl, ?_, ?_⟩
    · simpa [PyData.canLay0] using h.1.1
    · simpa only [PyData.leavesShort] using h.2
    · have h1 : s.cps.size ≤ 100 := h.1.2
      simp only [PyData.weight, nodes]
      omega
  | .list xs, h => by
    obtain ⟨h1, h2, h3, h4⟩ := smL_ok xs (by simpa [smD] using h)
    exact ⟨by simpa [PyData.canLay0] using h1, by simpa [PyData.showable] using h2, by simpa [PyData.leavesShort] using h3, by simpa [PyData.weight, nodes] using h4⟩
  | .tuple xs, h => by
    obtain ⟨h1, h2, h3, h4⟩ := smL_ok xs (by simpa [smD] using h)
    exact ⟨by simpa [PyData.canLay0] using h1, by simpa [PyData.showable] using h2, by simpa [PyData.leavesShort] using h3, by simpa [PyData.weight, nodes] using h4⟩
  | .dict _, h => by simp [smD] at h
theorem smL_ok : ∀ ds : List D, smL ds = true → PyData.canLayAll0 ds = true ∧ PyData.showableAll ds = true ∧ PyData.leavesShortAll 13 ds = true ∧ PyData.weightAll ds ≤ 101 * nodesL ds
  | [], _ => ⟨rfl, rfl, rfl, by simp [PyData.weightAll]⟩
  | d :: ds, h => by
    simp only [smL, Bool.and_eq_true] at h
    obtain ⟨h1, h2, h3, h4⟩ := sm_ok d h.1
    obtain ⟨i1, i2, i3, i4⟩ := smL_ok ds h.2
    refine ⟨by simp [PyData.canLayAll0, h1, i1], by simp [PyData.showableAll, h2, i2], by simp [PyData.leavesShortAll, h3, i3], ?_⟩
    simp only [PyData.weightAll, nodesL]
    omega
end
theorem repr_ok {d : D} (h : smD d = true) (hd : d.depth ≤ 8) (hn : nodes d ≤ 10000) : reprOk d = true := by
  obtain ⟨h1, h2, h3, h4⟩ := sm_ok d h
  unfold reprOk
  simp only [h1, h2, h3, Bool.and_true, Bool.true_and, Bool.and_eq_true, decide_eq_true_eq]
  refine ⟨hd, Nat.le_trans h4 (Nat.le_trans (Nat.mul_le_mul_left 101 hn) (by decide))⟩
theorem sm_of {d : D} (g : gv d) (h : isV d = true) : smD d = true := by
  rcases gv_cases g with rfl | ⟨b, rfl⟩ | ⟨i, rfl⟩ | ⟨s, rfl⟩
  · rfl
  · rfl
  · have := of_decide_eq_true h
    simp only [smD, decide_eq_true_eq]
    omega
  · have h1 := Bool.and_eq_true_iff.mp h
    have h2 : s.length ≤ 40 := of_decide_eq_true h1.1
    have h3 : PyData.strOk s = true := by simpa [PyData.canLay0] using SeqAt.canLay_of_shaped g.2
    simp only [smD, h3, Bool.true_and, Bool.and_eq_true, decide_eq_true_eq, List.all_eq_true]
    refine ⟨by omega, fun c hc => ?_⟩
    have h4 := (List.all_eq_true.mp h1.2) c hc
    have h5 := of_decide_eq_true h4
    have : (16 : Nat) ^ 8 = 4294967296 := by decide
    omega
theorem depth_v {d : D} (g : gv d) : d.depth = 0 := by
  rcases gv_cases g with rfl | ⟨b, rfl⟩ | ⟨i, rfl⟩ | ⟨s, rfl⟩ <;> simp [PyData.depth]
theorem nodes_v {d : D} (g : gv d) : nodes d = 1 := by
  rcases gv_cases g with rfl | ⟨b, rfl⟩ | ⟨i, rfl⟩ | ⟨s, rfl⟩ <;> simp [nodes]
theorem smL_map {α : Type} {f : α → D} {xs : List α} (h : ∀ x ∈ xs, smD (f x) = true) : smL (xs.map f) = true := by
  induction xs with
  | nil => rfl
  | cons x xs ih => simp [smL, h x List.mem_cons_self, ih fun y hy => h y (List.mem_cons_of_mem _ hy)]
theorem depthL_map {α : Type} {f : α → D} {xs : List α} {n : Nat} (h : ∀ x ∈ xs, (f x).depth ≤ n) : PyData.depthAll (xs.map f) ≤ n := by
  induction xs with
  | nil => simp [PyData.depthAll]
  | cons x xs ih =>
    have h1 := h x List.mem_cons_self
    have h2 := ih fun y hy => h y (List.mem_cons_of_mem _ hy)
    simp only [List.map_cons, PyData.depthAll]
    omega
theorem nodesL_map {α : Type} {f : α → D} {xs : List α} {n : Nat} (h : ∀ x ∈ xs, nodes (f x) ≤ n) : nodesL (xs.map f) ≤ (n + 1) * xs.length := by
  induction xs with
  | nil => simp [nodesL]
  | cons x xs ih =>
    have h1 := h x List.mem_cons_self
    have h2 := ih fun y hy => h y (List.mem_cons_of_mem _ hy)
    simp only [List.map_cons, nodesL, List.length_cons, Nat.mul_add, Nat.mul_one]
    omega
theorem ltB_vo' {a b : D} (ha : gv a) (hb : gv b) : DnLt.ltB (vo a) (vo b) = some (ltV a b) := by
  have h3 := eqv_vo ha hb
  cases h : PyData.eqv (vo a) (vo b) with
  | false => exact ltB_vo ha hb h
  | true =>
    rw [h] at h3
    have e2 : ltV a b = false ∧ ltV b a = false := by simpa using h3.symm
    rw [e2.1]
    obtain ⟨xs, e3⟩ := vo_tup a
    obtain ⟨ys, e4⟩ := vo_tup b
    rw [e3, e4] at h ⊢
    rw [PyData.eqv] at h
    rw [DnLt.ltB]
    exact ltA_eq xs ys h
open DnSo in
theorem ord_vo {d : D} (g : gv d) : ord0 (vo d) = true ∧ (vo d).canLay0 = true ∧ (vo d).depth ≤ 8 ∧ fst1 isI (vo d) = true := by
  have hs := SeqAt.canLay_of_shaped (shaped_vo g)
  rcases gv_cases g with rfl | ⟨b, rfl⟩ | ⟨i, rfl⟩ | ⟨s, rfl⟩ <;> exact ⟨rfl, hs, by simp [vo, PyData.depth, PyData.depthAll], rfl⟩
open DnSo in
theorem cmp_vo {a b : D} (ha : gv a) (hb : gv b) : (cmp3 (vo a) (vo b) == .lt) = ltV a b := (cmp_of_ltB _ _ _ (ord_vo ha).1 (ord_vo hb).1 (ltB_vo' ha hb)).symm
open DnSo in
theorem sortOk_vo {vs : List D} (h : ∀ v ∈ vs, gv v) (hl : vs.length ≤ 16777216) : sortOk (vs.map vo) = true := by
  unfold sortOk
  simp only [Bool.and_eq_true, List.all_eq_true, decide_eq_true_eq, Bool.or_eq_true, List.length_map, List.mem_map]
  refine ⟨⟨⟨hl, ?_⟩, ?_⟩, .inl (.inl ?_)⟩
  · rintro d ⟨p, hp, rfl⟩
    have := ord_vo (h p hp)
    exact ⟨⟨this.1, this.2.1⟩, this.2.2.1⟩
  · rintro d ⟨p, hp, rfl⟩ e ⟨q, hq, rfl⟩
    rw [ltB_vo' (h p hp) (h q hq)]
    rfl
  · rintro d ⟨p, hp, rfl⟩
    exact (ord_vo (h p hp)).2.2.2
open DnSo in
/-- the sorted orders: those of the values in order -/
theorem sort_vo {vs : List D} (h : ∀ v ∈ vs, gv v) : ∃ us : List D, (vs.map vo).mergeSort leD3 = us.map vo ∧ us.Perm vs ∧ us.Pairwise fun x y => ltV y x = false := by
  have hp := List.mergeSort_perm (vs.map vo) leD3
  obtain ⟨us, e, hu⟩ : ∃ us : List D, (vs.map vo).mergeSort leD3 = us.map vo ∧ us.Perm vs := by
    have : ∀ (l : List D) (vs : List D), l.Perm (vs.map vo) → ∃ us : List D, l = us.map vo ∧ us.Perm vs := by
      intro l
      induction l with
      | nil => intro vs hp; have := hp.symm.eq_nil; exact ⟨[], rfl, by rw [List.map_eq_nil_iff.mp this]⟩
      | cons a l ih =>
        intro vs hp
        have ha : a ∈ vs.map vo := hp.mem_iff.mp List.mem_cons_self
        obtain ⟨v, hv, rfl⟩ := List.mem_map.mp ha
        obtain ⟨s, t, rfl⟩ := List.append_of_mem hv
        have h2 : (vo v :: l).Perm (vo v :: ((s ++ t).map vo)) := hp.trans (by
          rw [List.map_append, List.map_cons, List.map_append]
          exact List.perm_middle)
        obtain ⟨us, e, hu⟩ := ih (s ++ t) ((List.perm_cons _).mp h2)
        exact ⟨v :: us, by rw [e]; rfl, (hu.cons v).trans List.perm_middle.symm⟩
    exact this _ _ hp
  refine ⟨us, e, hu, ?_⟩
  have O := swo3
  have hpw := List.pairwise_mergeSort (le := leD3) (fun a b c h1 h2 => ?_) (fun a b => ?_) (vs.map vo)
  · rw [e] at hpw
    have hpw' := List.pairwise_map.mp hpw
    refine List.Pairwise.imp_of_mem (fun {x y} hx hy hxy => ?_) hpw'
    have gx := h x (hu.mem_iff.mp hx)
    have gy := h y (hu.mem_iff.mp hy)
    rw [← cmp_vo gy gx]
    simpa [leD3] using hxy
  · simp only [leD3, Bool.not_eq_true'] at h1 h2 ⊢
    exact O.tr a b c h1 h2
  · unfold leD3
    cases c : (cmp3 b a == .lt) with
    | false => rfl
    | true => rw [O.asym b a c]; rfl
theorem ofString_inj {a b : String} (h : Str.ofString a = Str.ofString b) : a = b := by
  have h1 := congrArg (fun s : Str => s.cps.toList) h
  simp only [PyProof.Rows.signs_ofString] at h1
  have h2 : a.toList = b.toList := (List.map_inj_right (fun x y e => Char.toNat_inj.mp e)).mp h1
  exact String.toList_inj.mp h2
theorem str_ne {a b : String} (h : a ≠ b) : (Str.ofString a = Str.ofString b) = False := eq_false fun z => h (ofString_inj z)
end Lw
set_option maxHeartbeats 4000000
/-! flows: moves, sums, their order, in plain Lean -/
namespace Lw
open PySem Dn Dm DnSo
/-- time and row; a move has a weight besides -/
abbrev Ky := Int × List D
abbrev Mv := Ky × Int
def kyD (k : Ky) : D := .tuple [.int k.1, .tuple (k.2.map vo)]
def mvD (m : Mv) : D := .tuple [.int m.1.1, .tuple m.1.2, .int m.2]
def okK (k : Ky) : Prop := (∀ v ∈ k.2, gv v) ∧ k.2.length ≤ 1000
def okL (ms : List Mv) : Prop := ∀ m ∈ ms, okK m.1
def eqK (a b : Ky) : Bool := decide (a.1 = b.1) && (!ltR a.2 b.2 && !ltR b.2 a.2)
def kLt (a b : Ky) : Bool := if a.1 = b.1 then ltR a.2 b.2 else decide (a.1 < b.1)
theorem eqK_iff {a b : Ky} (ha : okK a) (hb : okK b) : eqK a b = true ↔ a = b := by
  unfold eqK
  rw [Bool.and_eq_true, Bool.and_eq_true, decide_eq_true_eq, Bool.not_eq_true', Bool.not_eq_true']
  constructor
  · rintro ⟨h1, h2, h3⟩
    exact Prod.ext h1 (ltR_eq ha.1 hb.1 h2 h3)
  · rintro rfl
    exact ⟨rfl, ltR_irr ha.1, ltR_irr ha.1⟩
theorem eqK_self {a : Ky} (ha : okK a) : eqK a a = true := (eqK_iff ha ha).mpr rfl
theorem vo_ord {xs : List D} (h : ∀ v ∈ xs, gv v) : ordL (xs.map vo) = true ∧ PyData.canLayAll0 (xs.map vo) = true ∧ PyData.depthAll (xs.map vo) ≤ 1 := by
  induction xs with
  | nil => exact ⟨rfl, rfl, by decide⟩
  | cons x xs ih =>
    obtain ⟨i1, i2, i3⟩ := ih fun v hv => h v (List.mem_cons_of_mem _ hv)
    obtain ⟨o1, o2, _, _⟩ := ord_vo (h x List.mem_cons_self)
    have o3 : (vo x).depth ≤ 1 := by
      rcases gv_cases (h x List.mem_cons_self) with rfl | ⟨b, rfl⟩ | ⟨i, rfl⟩ | ⟨s, rfl⟩ <;> simp [vo, PyData.depth, PyData.depthAll]
    refine ⟨?_, ?_, ?_⟩
    · rw [List.map_cons, ordL, o1, i1]; rfl
    · rw [List.map_cons, PyData.canLayAll0, o2, i2]; rfl
    · rw [List.map_cons, PyData.depthAll]; omega
theorem ky_ord {k : Ky} (h : okK k) : ord0 (kyD k) = true ∧ (kyD k).canLay0 = true ∧ (kyD k).depth ≤ 3 ∧ fst1 isI (kyD k) = true := by
  obtain ⟨o1, o2, o3⟩ := vo_ord h.1
  refine ⟨?_, ?_, ?_, rfl⟩
  · simp [kyD, ord0, ordL, o1]
  · simp [kyD, PyData.canLay0, PyData.canLayAll0, o2]
  · simp [kyD, PyData.depth, PyData.depthAll]
    omega
theorem ltB_ky {a b : Ky} (ha : okK a) (hb : okK b) : DnLt.ltB (kyD a) (kyD b) = some (kLt a b) := by
  show DnLt.ltB (.tuple [.int a.1, .tuple (a.2.map vo)]) (.tuple [.int b.1, .tuple (b.2.map vo)]) = _
  rw [DnLt.ltB, DnLt.ltA, PyData.eqv]
  unfold kLt
  by_cases h : a.1 = b.1
  · rw [if_pos h]
    have e : (a.1 == b.1) = true := by simp [h]
    rw [e, if_pos rfl, DnLt.ltA, PyData.eqv]
    have e2 := eqvAll_vo ha.1 hb.1
    cases h2 : PyData.eqvAll (a.2.map vo) (b.2.map vo) with
    | true =>
      rw [h2] at e2
      have e3 : ltR a.2 b.2 = false ∧ ltR b.2 a.2 = false := by simpa using e2.symm
      rw [if_pos rfl, e3.1]
      rfl
    | false =>
      rw [if_neg (by decide), DnLt.ltB, ltA_vo ha.1 hb.1]
  · rw [if_neg h]
    have e : (a.1 == b.1) = false := by simp [h]
    rw [e, if_neg (by decide), DnLt.ltB]
theorem cmp_ky {a b : Ky} (ha : okK a) (hb : okK b) : (cmp3 (kyD a) (kyD b) == .lt) = kLt a b := (cmp_of_ltB _ _ _ (ky_ord ha).1 (ky_ord hb).1 (ltB_ky ha hb)).symm
theorem kLt_asym {a b : Ky} (ha : okK a) (hb : okK b) (h : kLt a b = true) : kLt b a = false := by
  rw [← cmp_ky hb ha]
  rw [← cmp_ky ha hb] at h
  exact swo3.asym _ _ h
theorem kLt_irr {a : Ky} (ha : okK a) : kLt a a = false := by
  unfold kLt
  rw [if_pos rfl]
  exact ltR_irr ha.1
theorem kLt_tri {a b : Ky} (ha : okK a) (hb : okK b) (h1 : kLt a b = false) (h2 : kLt b a = false) : a = b := by
  unfold kLt at h1 h2
  by_cases h : a.1 = b.1
  · rw [if_pos h] at h1
    rw [if_pos h.symm] at h2
    exact Prod.ext h (ltR_eq ha.1 hb.1 h1 h2)
  · rw [if_neg h, decide_eq_false_iff_not] at h1
    rw [if_neg (Ne.symm h), decide_eq_false_iff_not] at h2
    omega
theorem kLt_trans {a b c : Ky} (ha : okK a) (hb : okK b) (hc : okK c) (h1 : kLt a b = true) (h2 : kLt b c = true) : kLt a c = true := by
  cases h : kLt a c with
  | true => rfl
  | false =>
    cases h3 : kLt c a with
    | false =>
      have := kLt_tri ha hc h h3
      subst this
      rw [kLt_asym ha hb h1] at h2
      cases h2
    | true =>
      have q := swo3.tr (kyD c) (kyD a) (kyD b) ((cmp_ky ha hc).trans h) ((cmp_ky hb ha).trans (kLt_asym ha hb h1))
      have e := (cmp_ky hb hc).trans h2
      rw [e] at q
      cases q
/-! weights -/
def wt (ms : List Mv) (k : Ky) : Int := (ms.map fun m => if eqK m.1 k = true then m.2 else 0).sum
theorem wt_nil (k : Ky) : wt [] k = 0 := rfl
theorem wt_cons (m : Mv) (ms : List Mv) (k : Ky) : wt (m :: ms) k = (if eqK m.1 k = true then m.2 else 0) + wt ms k := by
  unfold wt
  rw [List.map_cons, List.sum_cons]
theorem wt_app (as bs : List Mv) (k : Ky) : wt (as ++ bs) k = wt as k + wt bs k := by
  induction as with
  | nil => rw [List.nil_append, wt_nil, Int.zero_add]
  | cons a as ih => rw [List.cons_append, wt_cons, wt_cons, ih, Int.add_assoc]
theorem wt_rev (as : List Mv) (k : Ky) : wt as.reverse k = wt as k := by
  induction as with
  | nil => rfl
  | cons a as ih => rw [List.reverse_cons, wt_app, wt_cons, wt_cons, ih, wt_nil, Int.add_zero, Int.add_comm]
theorem wt_perm {as bs : List Mv} (h : as.Perm bs) (k : Ky) : wt as k = wt bs k := by
  induction h with
  | nil => rfl
  | cons a _ ih => rw [wt_cons, wt_cons, ih]
  | swap a b l => rw [wt_cons, wt_cons, wt_cons, wt_cons]; omega
  | trans _ _ i1 i2 => rw [i1, i2]
def neg (ms : List Mv) : List Mv := ms.map fun m => (m.1, -m.2)
theorem wt_neg (ms : List Mv) (k : Ky) : wt (neg ms) k = - wt ms k := by
  induction ms with
  | nil => rfl
  | cons a as ih =>
    show wt ((a.1, -a.2) :: neg as) k = _
    rw [wt_cons, wt_cons, ih]
    split <;> omega
theorem wt_zero {ms : List Mv} {k : Ky} (h : ∀ m ∈ ms, eqK m.1 k = false) : wt ms k = 0 := by
  induction ms with
  | nil => rfl
  | cons a as ih =>
    rw [wt_cons, h a List.mem_cons_self, if_neg (by decide), ih fun m hm => h m (List.mem_cons_of_mem _ hm)]
    rfl
/-! moves of one row and time put together -/
def addF : List Mv → Mv → List Mv
  | [], m => [m]
  | x :: xs, m => if eqK x.1 m.1 = true then (x.1, x.2 + m.2) :: xs else x :: addF xs m
def fnd (ms : List Mv) : List Mv := ms.foldl addF []
theorem okL_cons {m : Mv} {ms : List Mv} : okL (m :: ms) ↔ okK m.1 ∧ okL ms := by
  unfold okL
  simp only [List.mem_cons, forall_eq_or_imp]
theorem okL_app {as bs : List Mv} : okL (as ++ bs) ↔ okL as ∧ okL bs := by
  unfold okL
  constructor
  · exact fun h => ⟨fun m hm => h m (List.mem_append_left _ hm), fun m hm => h m (List.mem_append_right _ hm)⟩
  · rintro ⟨h1, h2⟩ m hm
    rcases List.mem_append.mp hm with h | h
    · exact h1 m h
    · exact h2 m h
theorem addF_ok {F : List Mv} {m : Mv} (h : okL F) (hm : okK m.1) : okL (addF F m) := by
  induction F with
  | nil => exact okL_cons.mpr ⟨hm, h⟩
  | cons x xs ih =>
    obtain ⟨h1, h2⟩ := okL_cons.mp h
    unfold addF
    split
    · exact okL_cons.mpr ⟨h1, h2⟩
    · exact okL_cons.mpr ⟨h1, ih h2⟩
theorem wt_addF {F : List Mv} {m : Mv} {k : Ky} (h : okL F) (hm : okK m.1) : wt (addF F m) k = wt F k + wt [m] k := by
  induction F with
  | nil => rw [wt_nil, Int.zero_add]; rfl
  | cons x xs ih =>
    obtain ⟨h1, h2⟩ := okL_cons.mp h
    unfold addF
    split
    · rename_i e
      have e2 := (eqK_iff h1 hm).mp e
      rw [wt_cons, wt_cons, wt_cons, wt_nil, ← e2]
      split <;> simp <;> omega
    · rw [wt_cons, wt_cons, ih h2]
      omega
theorem addF_keys {F : List Mv} {m : Mv} : ∀ x ∈ addF F m, (∃ y ∈ F, y.1 = x.1) ∨ x.1 = m.1 := by
  induction F with
  | nil =>
    intro x hx
    exact .inr (by rw [List.mem_singleton.mp hx])
  | cons y ys ih =>
    intro x hx
    unfold addF at hx
    split at hx
    · rcases List.mem_cons.mp hx with rfl | h
      · exact .inl ⟨y, List.mem_cons_self, rfl⟩
      · exact .inl ⟨x, List.mem_cons_of_mem _ h, rfl⟩
    · rcases List.mem_cons.mp hx with rfl | h
      · exact .inl ⟨x, List.mem_cons_self, rfl⟩
      · rcases ih x h with ⟨z, hz, e⟩ | e
        · exact .inl ⟨z, List.mem_cons_of_mem _ hz, e⟩
        · exact .inr e
/-- no key twice -/
def nd (F : List Mv) : Prop := F.Pairwise fun x y => x.1 ≠ y.1
theorem addF_nd {F : List Mv} {m : Mv} (h : okL F) (hm : okK m.1) (hn : nd F) : nd (addF F m) := by
  induction F with
  | nil => exact List.pairwise_singleton _ _
  | cons x xs ih =>
    obtain ⟨h1, h2⟩ := okL_cons.mp h
    obtain ⟨n1, n2⟩ := List.pairwise_cons.mp hn
    unfold addF
    split
    · exact List.pairwise_cons.mpr ⟨n1, n2⟩
    · rename_i e
      refine List.pairwise_cons.mpr ⟨fun y hy => ?_, ih h2 n2⟩
      rcases addF_keys y hy with ⟨z, hz, ez⟩ | ez
      · rw [← ez]
        exact n1 z hz
      · rw [ez]
        exact fun q => e ((eqK_iff h1 hm).mpr q)
theorem fold_facts : ∀ {ms F : List Mv}, okL F → nd F → okL ms → okL (ms.foldl addF F) ∧ nd (ms.foldl addF F) ∧ ∀ k, wt (ms.foldl addF F) k = wt F k + wt ms k
  | [], F, h1, h2, _ => ⟨h1, h2, fun k => by rw [wt_nil, Int.add_zero]; rfl⟩
  | m :: ms, F, h1, h2, h3 => by
    obtain ⟨o1, o2⟩ := okL_cons.mp h3
    obtain ⟨i1, i2, i3⟩ := fold_facts (ms := ms) (addF_ok h1 o1) (addF_nd h1 o1 h2) o2
    refine ⟨i1, i2, fun k => ?_⟩
    rw [List.foldl_cons, i3, wt_addF h1 o1, wt_cons, wt_cons, wt_nil]
    omega
theorem okL_nil : okL [] := fun m h => by cases h
theorem fnd_ok {ms : List Mv} (h : okL ms) : okL (fnd ms) := (fold_facts okL_nil List.Pairwise.nil h).1
theorem fnd_nd {ms : List Mv} (h : okL ms) : nd (fnd ms) := (fold_facts okL_nil List.Pairwise.nil h).2.1
theorem fnd_wt {ms : List Mv} (h : okL ms) (k : Ky) : wt (fnd ms) k = wt ms k := by
  have := (fold_facts okL_nil List.Pairwise.nil h).2.2 k
  rw [wt_nil, Int.zero_add] at this
  exact this
theorem addF_len {F : List Mv} {m : Mv} : (addF F m).length ≤ F.length + 1 := by
  induction F with
  | nil => exact Nat.le_refl _
  | cons x xs ih =>
    unfold addF
    split
    · simp
    · simp only [List.length_cons]
      omega
theorem fold_len : ∀ {ms F : List Mv}, (ms.foldl addF F).length ≤ F.length + ms.length
  | [], F => Nat.le_refl _
  | m :: ms, F => by
    have := fold_len (ms := ms) (F := addF F m)
    have := addF_len (F := F) (m := m)
    rw [List.foldl_cons, List.length_cons]
    omega
theorem fnd_len (ms : List Mv) : (fnd ms).length ≤ ms.length := by
  have := fold_len (ms := ms) (F := [])
  simpa [fnd] using this
theorem wt_mem {F : List Mv} {m : Mv} (h : okL F) (hn : nd F) (hm : m ∈ F) : wt F m.1 = m.2 := by
  induction F with
  | nil => cases hm
  | cons x xs ih =>
    obtain ⟨h1, h2⟩ := okL_cons.mp h
    obtain ⟨n1, n2⟩ := List.pairwise_cons.mp hn
    rw [wt_cons]
    rcases List.mem_cons.mp hm with rfl | hm
    · rw [eqK_self h1, if_pos rfl, wt_zero fun y hy => ?_, Int.add_zero]
      cases e : eqK y.1 m.1 with
      | false => rfl
      | true => exact absurd ((eqK_iff (h2 y hy) h1).mp e).symm (n1 y hy)
    · rw [ih h2 n2 hm]
      have : eqK x.1 m.1 = false := by
        cases e : eqK x.1 m.1 with
        | false => rfl
        | true => exact absurd ((eqK_iff h1 (h2 m hm)).mp e) (n1 m hm)
      rw [this, if_neg (by decide), Int.zero_add]
theorem wt_has {F : List Mv} {k : Ky} (h : okL F) (hk : okK k) (hw : wt F k ≠ 0) : ∃ m ∈ F, m.1 = k := by
  induction F with
  | nil => exact absurd rfl hw
  | cons x xs ih =>
    obtain ⟨h1, h2⟩ := okL_cons.mp h
    by_cases e : eqK x.1 k = true
    · exact ⟨x, List.mem_cons_self, (eqK_iff h1 hk).mp e⟩
    · rw [wt_cons, if_neg e, Int.zero_add] at hw
      obtain ⟨m, hm, e2⟩ := ih h2 hw
      exact ⟨m, List.mem_cons_of_mem _ hm, e2⟩
/-! the order of moves -/
def ins (m : Mv) : List Mv → List Mv
  | [] => [m]
  | x :: xs => if kLt x.1 m.1 = true then x :: ins m xs else m :: x :: xs
def srt (F : List Mv) : List Mv := F.foldl (fun o m => ins m o) []
def asc (F : List Mv) : Prop := F.Pairwise fun x y => kLt x.1 y.1 = true
theorem ins_perm (m : Mv) (xs : List Mv) : (ins m xs).Perm (m :: xs) := by
  induction xs with
  | nil => exact .refl _
  | cons x xs ih =>
    unfold ins
    split
    · exact (ih.cons x).trans (.swap _ _ _)
    · exact .refl _
theorem okL_perm {as bs : List Mv} (p : as.Perm bs) (h : okL as) : okL bs := fun m hm => h m (p.mem_iff.mpr hm)
theorem ins_asc {m : Mv} {xs : List Mv} (h : okL xs) (hm : okK m.1) (hn : ∀ x ∈ xs, x.1 ≠ m.1) (ha : asc xs) : asc (ins m xs) := by
  induction xs with
  | nil => exact List.pairwise_singleton _ _
  | cons x xs ih =>
    obtain ⟨h1, h2⟩ := okL_cons.mp h
    obtain ⟨a1, a2⟩ := List.pairwise_cons.mp ha
    unfold ins
    split
    · rename_i e
      refine List.pairwise_cons.mpr ⟨fun y hy => ?_, ih h2 (fun y hy => hn y (List.mem_cons_of_mem _ hy)) a2⟩
      rcases List.mem_cons.mp ((ins_perm m xs).mem_iff.mp hy) with rfl | hy
      · exact e
      · exact a1 y hy
    · rename_i e
      have hlt : kLt m.1 x.1 = true := by
        cases q : kLt m.1 x.1 with
        | true => rfl
        | false => exact absurd (kLt_tri h1 hm (by simpa using e) q) (hn x List.mem_cons_self)
      refine List.pairwise_cons.mpr ⟨fun y hy => ?_, ha⟩
      rcases List.mem_cons.mp hy with rfl | hy
      · exact hlt
      · exact kLt_trans hm h1 (h2 y hy) hlt (a1 y hy)
theorem srt_facts : ∀ {F o : List Mv}, okL o → asc o → okL F → (∀ x ∈ o, ∀ y ∈ F, x.1 ≠ y.1) → nd F → (F.foldl (fun o m => ins m o) o).Perm (o ++ F) ∧ asc (F.foldl (fun o m => ins m o) o)
  | [], o, h1, h2, _, _, _ => ⟨by simp, h2⟩
  | m :: F, o, h1, h2, h3, h4, h5 => by
    obtain ⟨o1, o2⟩ := okL_cons.mp h3
    obtain ⟨n1, n2⟩ := List.pairwise_cons.mp h5
    have hp := ins_perm m o
    obtain ⟨i1, i2⟩ := srt_facts (F := F) (o := ins m o) (okL_perm hp.symm (okL_cons.mpr ⟨o1, h1⟩)) (ins_asc h1 o1 (fun x hx => h4 x hx m List.mem_cons_self) h2) o2 (fun x hx y hy => by
      rcases List.mem_cons.mp (hp.mem_iff.mp hx) with rfl | hx
      · exact n1 y hy
      · exact h4 x hx y (List.mem_cons_of_mem _ hy)) n2
    refine ⟨?_, i2⟩
    rw [List.foldl_cons]
    refine i1.trans ((hp.append_right F).trans ?_)
    rw [List.cons_append]
    exact List.perm_middle.symm
theorem srt_perm {F : List Mv} (h : okL F) (hn : nd F) : (srt F).Perm F := by
  have := (srt_facts (F := F) (o := []) okL_nil List.Pairwise.nil h (fun x hx => by cases hx) hn).1
  rw [List.nil_append] at this
  exact this
theorem srt_asc {F : List Mv} (h : okL F) (hn : nd F) : asc (srt F) := (srt_facts (F := F) (o := []) okL_nil List.Pairwise.nil h (fun x hx => by cases hx) hn).2
theorem uniq : ∀ {xs ys : List Mv}, okL xs → okL ys → asc xs → asc ys → (∀ m, m ∈ xs ↔ m ∈ ys) → xs = ys
  | [], [], _, _, _, _, _ => rfl
  | [], y :: ys, _, _, _, _, h => by
    have := (h y).mpr List.mem_cons_self
    cases this
  | x :: xs, [], _, _, _, _, h => by
    have := (h x).mp List.mem_cons_self
    cases this
  | x :: xs, y :: ys, h1, h2, h3, h4, h => by
    obtain ⟨o1, o2⟩ := okL_cons.mp h1
    obtain ⟨p1, p2⟩ := okL_cons.mp h2
    obtain ⟨a1, a2⟩ := List.pairwise_cons.mp h3
    obtain ⟨b1, b2⟩ := List.pairwise_cons.mp h4
    have e : x = y := by
      rcases List.mem_cons.mp ((h x).mp List.mem_cons_self) with e | hx
      · exact e
      · rcases List.mem_cons.mp ((h y).mpr List.mem_cons_self) with e | hy
        · exact e.symm
        · have q1 := b1 x hx
          have q2 := a1 y hy
          rw [kLt_asym o1 p1 q2] at q1
          cases q1
    subst e
    refine congrArg _ (uniq o2 p2 a2 b2 fun m => ⟨fun hm => ?_, fun hm => ?_⟩)
    · rcases List.mem_cons.mp ((h m).mp (List.mem_cons_of_mem _ hm)) with e | h'
      · subst e
        have := a1 m hm
        rw [kLt_irr o1] at this
        cases this
      · exact h'
    · rcases List.mem_cons.mp ((h m).mpr (List.mem_cons_of_mem _ hm)) with e | h'
      · subst e
        have := b1 m hm
        rw [kLt_irr o1] at this
        cases this
      · exact h'
/-- the flow of moves -/
def flw (ms : List Mv) : List Mv := srt ((fnd ms).filter fun m => decide (m.2 ≠ 0))
theorem flt_ok {F : List Mv} {p : Mv → Bool} (h : okL F) : okL (F.filter p) := fun m hm => h m (List.mem_filter.mp hm).1
theorem flt_nd {F : List Mv} {p : Mv → Bool} (h : nd F) : nd (F.filter p) := h.sublist List.filter_sublist
theorem flt_asc {F : List Mv} {p : Mv → Bool} (h : asc F) : asc (F.filter p) := h.sublist List.filter_sublist
theorem asc_nd {F : List Mv} (h : okL F) (ha : asc F) : nd F := by
  induction F with
  | nil => exact .nil
  | cons x xs ih =>
    obtain ⟨o1, o2⟩ := okL_cons.mp h
    obtain ⟨a1, a2⟩ := List.pairwise_cons.mp ha
    refine List.pairwise_cons.mpr ⟨fun y hy e => ?_, ih o2 a2⟩
    have := a1 y hy
    rw [← e, kLt_irr o1] at this
    cases this
theorem flw_perm {ms : List Mv} (h : okL ms) : (flw ms).Perm ((fnd ms).filter fun m => decide (m.2 ≠ 0)) := srt_perm (flt_ok (fnd_ok h)) (flt_nd (fnd_nd h))
theorem flw_ok {ms : List Mv} (h : okL ms) : okL (flw ms) := okL_perm (flw_perm h).symm (flt_ok (fnd_ok h))
theorem flw_asc {ms : List Mv} (h : okL ms) : asc (flw ms) := srt_asc (flt_ok (fnd_ok h)) (flt_nd (fnd_nd h))
theorem flw_len {ms : List Mv} (h : okL ms) : (flw ms).length ≤ ms.length := by
  rw [(flw_perm h).length_eq]
  exact Nat.le_trans (List.length_filter_le _ _) (fnd_len ms)
theorem flw_mem {ms : List Mv} (h : okL ms) {m : Mv} : m ∈ flw ms ↔ m.2 ≠ 0 ∧ okK m.1 ∧ wt ms m.1 = m.2 := by
  rw [(flw_perm h).mem_iff, List.mem_filter, decide_eq_true_eq]
  constructor
  · rintro ⟨h1, h2⟩
    have h3 := fnd_ok h m h1
    refine ⟨h2, h3, ?_⟩
    rw [← fnd_wt h]
    exact wt_mem (fnd_ok h) (fnd_nd h) h1
  · rintro ⟨h1, h2, h3⟩
    refine ⟨?_, h1⟩
    have h4 : wt (fnd ms) m.1 ≠ 0 := by rw [fnd_wt h, h3]; exact h1
    obtain ⟨x, hx, e⟩ := wt_has (fnd_ok h) h2 h4
    have h5 := wt_mem (fnd_ok h) (fnd_nd h) hx
    rw [e, fnd_wt h, h3] at h5
    have : x = m := Prod.ext e h5.symm
    rw [← this]
    exact hx
theorem flw_wt {ms : List Mv} (h : okL ms) {k : Ky} (hk : okK k) : wt (flw ms) k = wt ms k := by
  by_cases hz : wt ms k = 0
  · rw [hz]
    refine wt_zero fun m hm => ?_
    cases e : eqK m.1 k with
    | false => rfl
    | true =>
      obtain ⟨h1, h2, h3⟩ := (flw_mem h).mp hm
      rw [(eqK_iff h2 hk).mp e, hz] at h3
      exact absurd h3.symm h1
  · have hm : (k, wt ms k) ∈ flw ms := (flw_mem h).mpr ⟨hz, hk, rfl⟩
    exact wt_mem (flw_ok h) (asc_nd (flw_ok h) (flw_asc h)) hm
/-- flows are told by their weights -/
theorem flw_ext {as bs : List Mv} (ha : okL as) (hb : okL bs) (h : ∀ k, okK k → wt as k = wt bs k) : flw as = flw bs :=
  uniq (flw_ok ha) (flw_ok hb) (flw_asc ha) (flw_asc hb) fun m => by
    rw [flw_mem ha, flw_mem hb]
    constructor
    · rintro ⟨h1, h2, h3⟩
      exact ⟨h1, h2, by rw [← h _ h2, h3]⟩
    · rintro ⟨h1, h2, h3⟩
      exact ⟨h1, h2, by rw [h _ h2, h3]⟩
/-- .. and what is a flow is its own -/
theorem flw_is {F ms : List Mv} (hF : okL F) (hm : okL ms) (ha : asc F) (h : ∀ m ∈ F, m.2 ≠ 0) (hw : ∀ k, okK k → wt F k = wt ms k) : F = flw ms :=
  uniq hF (flw_ok hm) ha (flw_asc hm) fun m => by
    rw [flw_mem hm]
    constructor
    · intro h1
      exact ⟨h m h1, hF m h1, by rw [← hw _ (hF m h1)]; exact wt_mem hF (asc_nd hF ha) h1⟩
    · rintro ⟨h1, h2, h3⟩
      rw [← hw _ h2] at h3
      obtain ⟨x, hx, e⟩ := wt_has hF h2 (by rw [h3]; exact h1)
      have h5 := wt_mem hF (asc_nd hF ha) hx
      rw [e, h3] at h5
      have e6 : x = m := Prod.ext e h5.symm
      rw [← e6]
      exact hx
theorem flw_nz {ms : List Mv} (h : okL ms) : ∀ m ∈ flw ms, m.2 ≠ 0 := fun m hm => ((flw_mem h).mp hm).1
theorem flw_flw {ms : List Mv} (h : okL ms) : flw (flw ms) = flw ms := (flw_is (flw_ok h) (flw_ok h) (flw_asc h) (flw_nz h) fun _ _ => rfl).symm
/-- the sorted list's nonzero moves are the flow -/
theorem srt_flw {ms : List Mv} (h : okL ms) : (srt (fnd ms)).filter (fun m => decide (m.2 ≠ 0)) = flw ms := by
  have hp := srt_perm (fnd_ok h) (fnd_nd h)
  refine uniq (flt_ok (okL_perm hp.symm (fnd_ok h))) (flw_ok h) (flt_asc (srt_asc (fnd_ok h) (fnd_nd h))) (flw_asc h) fun m => ?_
  rw [List.mem_filter, hp.mem_iff, (flw_perm h).mem_iff, List.mem_filter]
/-- the place of a move in a sorted list -/
theorem ins_take {m : Mv} : ∀ {xs : List Mv}, okL xs → okK m.1 → asc xs → xs.take (xs.filter fun o => kLt o.1 m.1).length ++ [m] ++ xs.drop (xs.filter fun o => kLt o.1 m.1).length = ins m xs
  | [], _, _, _ => rfl
  | x :: xs, h, hm, ha => by
    obtain ⟨h1, h2⟩ := okL_cons.mp h
    obtain ⟨a1, a2⟩ := List.pairwise_cons.mp ha
    unfold ins
    by_cases e : kLt x.1 m.1 = true
    · rw [if_pos e, List.filter_cons_of_pos (by exact e), List.length_cons, List.take_succ_cons, List.drop_succ_cons, List.cons_append, List.cons_append, ins_take h2 hm a2]
    · rw [if_neg e]
      have : ((x :: xs).filter fun o => kLt o.1 m.1) = [] := by
        rw [List.filter_eq_nil_iff]
        intro y hy
        rcases List.mem_cons.mp hy with rfl | hy
        · exact e
        · exact fun q => e (kLt_trans h1 (h2 y hy) hm (a1 y hy) q)
      rw [this]
      rfl
/-! keys in dicts -/
mutual
theorem nkOf_inj : ∀ (d e : D) (k : NestedKey), nkOf d = some k → nkOf e = some k → d = e
  | .none, e, k, h1, h2 => by
    cases h1
    cases e <;> simp only [nkOf] at h2 <;> first | rfl | cases h2 | skip
    obtain ⟨_, _, q⟩ := bind_some h2
    cases q
  | .int i, e, k, h1, h2 => by
    cases h1
    cases e <;> simp only [nkOf] at h2 <;> first | (cases h2; rfl) | cases h2 | skip
    obtain ⟨_, _, q⟩ := bind_some h2
    cases q
  | .str x, e, k, h1, h2 => by
    cases h1
    cases e <;> simp only [nkOf] at h2 <;> first | (cases h2; rfl) | cases h2 | skip
    obtain ⟨_, _, q⟩ := bind_some h2
    cases q
  | .tuple xs, e, k, h1, h2 => by
    obtain ⟨ks, q1, q2⟩ := bind_some (show (nkAll xs).bind (fun ks => some (NestedKey.tup ks)) = some k from h1)
    cases q2
    cases e <;> simp only [nkOf] at h2 <;> first | cases h2 | skip
    obtain ⟨ks', q3, q4⟩ := bind_some h2
    cases q4
    rw [nkAll_inj _ _ _ q1 q3]
  | .bool _, _, _, h1, _ => by cases h1
  | .list _, _, _, h1, _ => by cases h1
  | .dict _, _, _, h1, _ => by cases h1
theorem nkAll_inj : ∀ (ds es : List D) (ks : List NestedKey), nkAll ds = some ks → nkAll es = some ks → ds = es
  | [], es, ks, h1, h2 => by
    cases h1
    cases es with
    | nil => rfl
    | cons e es =>
      obtain ⟨_, _, q⟩ := bind_some (show (nkOf e).bind (fun k => (nkAll es).bind fun ks => some (k :: ks)) = _ from h2)
      obtain ⟨_, _, q⟩ := bind_some q
      cases q
  | d :: ds, es, ks, h1, h2 => by
    obtain ⟨k, p1, q⟩ := bind_some (show (nkOf d).bind (fun k => (nkAll ds).bind fun ks => some (k :: ks)) = _ from h1)
    obtain ⟨ks', p2, q⟩ := bind_some q
    cases q
    cases es with
    | nil => cases h2
    | cons e es =>
      obtain ⟨k2, p3, q⟩ := bind_some (show (nkOf e).bind (fun k => (nkAll es).bind fun ks => some (k :: ks)) = _ from h2)
      obtain ⟨ks2, p4, q⟩ := bind_some q
      cases q
      rw [nkOf_inj _ _ _ p1 p3, nkAll_inj _ _ _ p2 p4]
end
theorem nkD_of {d : D} {k : NestedKey} (h1 : nkOf d = some k) (h2 : k.depth ≤ 8) (h3 : d.canLay0 = true) : nkD d = some k := by
  unfold nkD
  rw [h1]
  exact if_pos ⟨h2, h3⟩
theorem nk_vo {v : D} (h : gv v) : ∃ k, nkOf (vo v) = some k ∧ k.depth ≤ 1 := by
  rcases gv_cases h with rfl | ⟨b, rfl⟩ | ⟨i, rfl⟩ | ⟨s, rfl⟩ <;> exact ⟨_, rfl, by simp [NestedKey.depth, NestedKey.depthAll]⟩
theorem nk_vos : ∀ {xs : List D}, (∀ v ∈ xs, gv v) → ∃ ks, nkAll (xs.map vo) = some ks ∧ NestedKey.depthAll ks ≤ 1
  | [], _ => ⟨[], rfl, by simp [NestedKey.depthAll]⟩
  | x :: xs, h => by
    obtain ⟨k, h1, h2⟩ := nk_vo (h x List.mem_cons_self)
    obtain ⟨ks, h3, h4⟩ := nk_vos fun v hv => h v (List.mem_cons_of_mem _ hv)
    refine ⟨k :: ks, ?_, ?_⟩
    · rw [List.map_cons]
      show (nkOf (vo x)).bind (fun k => (nkAll (xs.map vo)).bind fun ks => some (k :: ks)) = _
      rw [h1, h3]
      rfl
    · rw [NestedKey.depthAll]
      omega
theorem nk_ky {k : Ky} (h : okK k) : ∃ n, nkD (kyD k) = some n := by
  obtain ⟨ks, h1, h2⟩ := nk_vos h.1
  refine ⟨.tup [.num k.1, .tup ks], nkD_of ?_ ?_ (ky_ord h).2.1⟩
  · show (nkAll [.int k.1, .tuple (k.2.map vo)]).bind (fun ks => some (NestedKey.tup ks)) = _
    have e : nkOf (.tuple (k.2.map vo)) = some (.tup ks) := by
      show (nkAll (k.2.map vo)).bind (fun ks => some (NestedKey.tup ks)) = _
      rw [h1]
      rfl
    have e2 : nkAll [.int k.1, .tuple (k.2.map vo)] = some [.num k.1, .tup ks] := by
      show (nkOf (.int k.1)).bind (fun a => ((nkOf (.tuple (k.2.map vo))).bind fun b => (nkAll []).bind fun r => some (b :: r)).bind fun r => some (a :: r)) = _
      rw [e]
      rfl
    rw [e2]
    rfl
  · simp [NestedKey.depth, NestedKey.depthAll]
    omega
theorem vo_inj {a b : D} (ha : gv a) (hb : gv b) (h : vo a = vo b) : a = b := by
  have e := eqv_vo ha hb
  rw [h, eqv_self _ (ord_vo hb).1] at e
  have e2 : ltV a b = false ∧ ltV b a = false := by simpa using e.symm
  exact ltV_eq ha hb e2.1 e2.2
theorem vos_inj : ∀ {xs ys : List D}, (∀ v ∈ xs, gv v) → (∀ v ∈ ys, gv v) → xs.map vo = ys.map vo → xs = ys
  | [], [], _, _, _ => rfl
  | [], _ :: _, _, _, h => by simp at h
  | _ :: _, [], _, _, h => by simp at h
  | x :: xs, y :: ys, hx, hy, h => by
    rw [List.map_cons, List.map_cons] at h
    injection h with h1 h2
    rw [vo_inj (hx x List.mem_cons_self) (hy y List.mem_cons_self) h1, vos_inj (fun v hv => hx v (List.mem_cons_of_mem _ hv)) (fun v hv => hy v (List.mem_cons_of_mem _ hv)) h2]
theorem ky_inj {a b : Ky} (ha : okK a) (hb : okK b) (h : kyD a = kyD b) : a = b := by
  unfold kyD at h
  injection h with h
  injection h with h1 h2
  injection h1 with h1
  injection h2 with h2
  injection h2 with h2
  exact Prod.ext h1 (vos_inj ha.1 hb.1 h2)
theorem nk_eq {a b : Ky} (ha : okK a) (hb : okK b) : decide (nkD (kyD a) = nkD (kyD b)) = eqK a b := by
  rw [Bool.eq_iff_iff, decide_eq_true_eq, eqK_iff ha hb]
  constructor
  · intro h
    obtain ⟨n, hn⟩ := nk_ky ha
    rw [hn] at h
    obtain ⟨h1, _, _⟩ := nkD_some hn
    obtain ⟨h2, _, _⟩ := nkD_some h.symm
    exact ky_inj ha hb (nkOf_inj _ _ _ h1 h2)
  · rintro rfl
    rfl
def rowsD (F : List Mv) : List (D × D) := F.map fun m => (kyD m.1, .tuple m.1.2)
def wtsD (F : List Mv) : List (D × D) := F.map fun m => (kyD m.1, .int m.2)
/-- setting a key of a table that is drawn from moves -/
theorem put_gen {f : Mv → D} {k : Ky} {d : D} : ∀ {F : List Mv}, okL F → okK k → putD (F.map fun m => (kyD m.1, f m)) (kyD k) d = if F.any (fun m => eqK m.1 k) = true then F.map (fun m => (kyD m.1, if eqK m.1 k = true then d else f m)) else (F.map fun m => (kyD m.1, f m)) ++ [(kyD k, d)] := by
  intro F h hk
  unfold putD
  have e1 : ((F.map fun m => (kyD m.1, f m)).any fun p => decide (nkD p.1 = nkD (kyD k))) = F.any fun m => eqK m.1 k := by
    rw [List.any_map]
    induction F with
    | nil => rfl
    | cons x xs ih =>
      obtain ⟨o1, o2⟩ := okL_cons.mp h
      rw [List.any_cons, List.any_cons, ih o2]
      show (decide (nkD (kyD x.1) = nkD (kyD k)) || _) = _
      rw [nk_eq o1 hk]
  rw [e1]
  split
  · rw [List.map_map]
    refine List.map_congr_left fun m hm => ?_
    show (if nkD (kyD m.1) = nkD (kyD k) then (kyD m.1, d) else (kyD m.1, f m)) = _
    have e2 := nk_eq (h m hm) hk
    by_cases z : eqK m.1 k = true
    · rw [if_pos z, if_pos (by rw [z] at e2; exact of_decide_eq_true e2)]
    · have z' : eqK m.1 k = false := by simpa using z
      rw [if_neg z, if_neg (by rw [z'] at e2; exact of_decide_eq_false e2)]
  · rfl
theorem addF_new {m : Mv} : ∀ {F : List Mv}, F.any (fun x => eqK x.1 m.1) = false → addF F m = F ++ [m]
  | [], _ => rfl
  | x :: xs, h => by
    rw [List.any_cons, Bool.or_eq_false_iff] at h
    unfold addF
    rw [h.1, if_neg (by decide), addF_new h.2]
    rfl
theorem addF_old {m : Mv} : ∀ {F : List Mv}, okL F → nd F → okK m.1 → F.any (fun x => eqK x.1 m.1) = true → addF F m = F.map fun x => if eqK x.1 m.1 = true then (x.1, x.2 + m.2) else x
  | [], _, _, _, h => by cases h
  | x :: xs, h, hn, hm, ha => by
    obtain ⟨o1, o2⟩ := okL_cons.mp h
    obtain ⟨n1, n2⟩ := List.pairwise_cons.mp hn
    unfold addF
    rw [List.map_cons]
    by_cases e : eqK x.1 m.1 = true
    · rw [if_pos e, if_pos e]
      refine congrArg _ (Eq.symm ?_)
      refine Eq.trans (List.map_congr_left (g := id) fun y hy => ?_) (List.map_id _)
      have : eqK y.1 m.1 = false := by
        cases q : eqK y.1 m.1 with
        | false => rfl
        | true => exact absurd (((eqK_iff o1 hm).mp e).trans ((eqK_iff (o2 y hy) hm).mp q).symm) (n1 y hy)
      rw [this]
      rfl
    · rw [if_neg e, if_neg e, addF_old o2 n2 hm (by simpa [e] using ha)]
theorem put_rows {F : List Mv} {m : Mv} (h : okL F) (hn : nd F) (hm : okK m.1) : putD (rowsD F) (kyD m.1) (.tuple m.1.2) = rowsD (addF F m) := by
  unfold rowsD
  rw [put_gen (f := fun m => .tuple m.1.2) h hm]
  cases e : F.any fun x => eqK x.1 m.1 with
  | true =>
    rw [if_pos rfl, addF_old h hn hm e, List.map_map]
    refine List.map_congr_left fun x hx => ?_
    by_cases z : eqK x.1 m.1 = true
    · show (kyD x.1, if eqK x.1 m.1 = true then _ else _) = (kyD (if eqK x.1 m.1 = true then (x.1, x.2 + m.2) else x).1, PyData.tuple (if eqK x.1 m.1 = true then (x.1, x.2 + m.2) else x).1.2)
      rw [if_pos z, if_pos z, ← (eqK_iff (h x hx) hm).mp z]
    · show (kyD x.1, if eqK x.1 m.1 = true then _ else _) = (kyD (if eqK x.1 m.1 = true then (x.1, x.2 + m.2) else x).1, PyData.tuple (if eqK x.1 m.1 = true then (x.1, x.2 + m.2) else x).1.2)
      rw [if_neg z, if_neg z]
  | false =>
    rw [if_neg (by decide), addF_new e, List.map_append]
    rfl
theorem at_wts {F : List Mv} {k : Ky} (h : okL F) (hn : nd F) (hk : okK k) : (atD (wtsD F) (kyD k)).getD (.int 0) = .int (wt F k) := by
  induction F with
  | nil => rfl
  | cons x xs ih =>
    obtain ⟨o1, o2⟩ := okL_cons.mp h
    obtain ⟨n1, n2⟩ := List.pairwise_cons.mp hn
    have ih := ih o2 n2
    unfold atD wtsD at ih ⊢
    rw [List.map_cons, List.find?_cons, wt_cons]
    show ((match decide (nkD (kyD x.1) = nkD (kyD k)) with | true => _ | false => _ : Option (D × D)).map _).getD _ = _
    rw [nk_eq o1 hk]
    cases e : eqK x.1 k with
    | true =>
      rw [wt_zero fun y hy => ?_]
      · simp
      · have e2 := (eqK_iff o1 hk).mp e
        cases q : eqK y.1 k with
        | false => rfl
        | true => exact absurd (e2.trans ((eqK_iff (o2 y hy) hk).mp q).symm) (n1 y hy)
    | false => simpa using ih
theorem put_wts {F : List Mv} {m : Mv} (h : okL F) (hn : nd F) (hm : okK m.1) : putD (wtsD F) (kyD m.1) (.int (wt F m.1 + m.2)) = wtsD (addF F m) := by
  unfold wtsD
  rw [put_gen (f := fun m => .int m.2) h hm]
  cases e : F.any fun x => eqK x.1 m.1 with
  | true =>
    rw [if_pos rfl, addF_old h hn hm e, List.map_map]
    refine List.map_congr_left fun x hx => ?_
    show (kyD x.1, if eqK x.1 m.1 = true then _ else _) = (kyD (if eqK x.1 m.1 = true then (x.1, x.2 + m.2) else x).1, PyData.int (if eqK x.1 m.1 = true then (x.1, x.2 + m.2) else x).2)
    by_cases z : eqK x.1 m.1 = true
    · rw [if_pos z, if_pos z, ← (eqK_iff (h x hx) hm).mp z, wt_mem h hn hx]
    · rw [if_neg z, if_neg z]
  | false =>
    rw [if_neg (by decide), addF_new e, List.map_append]
    have : wt F m.1 = 0 := wt_zero fun x hx => by
      rw [List.any_eq_false] at e
      simpa using e x hx
    rw [this, Int.zero_add]
    rfl
theorem at_gen {f : Mv → D} {m : Mv} : ∀ {F : List Mv}, okL F → nd F → m ∈ F → atD (F.map fun m => (kyD m.1, f m)) (kyD m.1) = some (f m)
  | x :: xs, h, hn, hm => by
    obtain ⟨o1, o2⟩ := okL_cons.mp h
    obtain ⟨n1, n2⟩ := List.pairwise_cons.mp hn
    have hk : okK m.1 := h m hm
    unfold atD
    rw [List.map_cons, List.find?_cons]
    show ((match decide (nkD (kyD x.1) = nkD (kyD m.1)) with | true => _ | false => _ : Option (D × D)).map _) = _
    rw [nk_eq o1 hk]
    rcases List.mem_cons.mp hm with rfl | hm
    · rw [eqK_self hk]
      rfl
    · have : eqK x.1 m.1 = false := by
        cases q : eqK x.1 m.1 with
        | false => rfl
        | true => exact absurd ((eqK_iff o1 hk).mp q) (n1 m hm)
      rw [this]
      exact at_gen o2 n2 hm
theorem at_rows {F : List Mv} {m : Mv} (h : okL F) (hn : nd F) (hm : m ∈ F) : atD (rowsD F) (kyD m.1) = some (.tuple m.1.2) := at_gen h hn hm
theorem at_wts2 {F : List Mv} {m : Mv} (h : okL F) (hn : nd F) (hm : m ∈ F) : atD (wtsD F) (kyD m.1) = some (.int m.2) := at_gen h hn hm
theorem sortOk_kys {F : List Mv} (h : okL F) (hl : F.length ≤ 16777216) : sortOk (F.map fun m => kyD m.1) = true := by
  unfold sortOk
  simp only [Bool.and_eq_true, List.all_eq_true, decide_eq_true_eq, Bool.or_eq_true]
  refine ⟨⟨⟨by rw [List.length_map]; exact hl, fun d hd => ?_⟩, fun d hd e he => ?_⟩, .inl (.inl fun d hd => ?_)⟩
  · obtain ⟨m, hm, rfl⟩ := List.mem_map.mp hd
    obtain ⟨o1, o2, o3, o4⟩ := ky_ord (h m hm)
    exact ⟨⟨o1, o2⟩, by omega⟩
  · obtain ⟨m, hm, rfl⟩ := List.mem_map.mp hd
    obtain ⟨n, hn, rfl⟩ := List.mem_map.mp he
    rw [ltB_ky (h m hm) (h n hn)]
    rfl
  · obtain ⟨m, hm, rfl⟩ := List.mem_map.mp hd
    exact (ky_ord (h m hm)).2.2.2
theorem sort_kys {F : List Mv} (h : okL F) (hn : nd F) : (F.map fun m => kyD m.1).mergeSort leD3 = (srt F).map fun m => kyD m.1 := by
  refine (sort_one (fun d hd => ?_) ((srt_perm h hn).map _) ?_).symm
  · obtain ⟨m, hm, rfl⟩ := List.mem_map.mp hd
    exact (ky_ord (h m hm)).1
  · rw [List.pairwise_map]
    have ho := okL_perm (srt_perm h hn).symm h
    refine (srt_asc h hn).imp_of_mem fun {a b} ha hb q => ?_
    rw [cmp_ky (ho b hb) (ho a ha)]
    exact kLt_asym (ho a ha) (ho b hb) q
theorem tup_ky (k : Ky) : keyTup (kyD k) = true := rfl
end Lw
set_option maxHeartbeats 4000000
/-! groups by keys, in plain Lean -/
namespace Lw
open PySem Dn Dm DnSo
/-- a key: values of some columns -/
def okR (r : List D) : Prop := (∀ v ∈ r, gv v) ∧ r.length ≤ 1000
def kyR (κ : List D) : D := .tuple (κ.map vo)
def eqR (a b : List D) : Bool := !ltR a b && !ltR b a
theorem eqR_iff {a b : List D} (ha : okR a) (hb : okR b) : eqR a b = true ↔ a = b := by
  unfold eqR
  rw [Bool.and_eq_true, Bool.not_eq_true', Bool.not_eq_true']
  constructor
  · rintro ⟨h1, h2⟩
    exact ltR_eq ha.1 hb.1 h1 h2
  · rintro rfl
    exact ⟨ltR_irr ha.1, ltR_irr ha.1⟩
theorem eqR_self {a : List D} (ha : okR a) : eqR a a = true := (eqR_iff ha ha).mpr rfl
theorem nk_kyR {κ : List D} (h : okR κ) : ∃ n, nkD (kyR κ) = some n := by
  obtain ⟨ks, h1, h2⟩ := nk_vos h.1
  obtain ⟨o1, o2, o3⟩ := vo_ord h.1
  refine ⟨.tup ks, nkD_of ?_ ?_ ?_⟩
  · show (nkAll (κ.map vo)).bind (fun ks => some (NestedKey.tup ks)) = _
    rw [h1]
    rfl
  · simp [NestedKey.depth]
    omega
  · simpa [kyR, PyData.canLay0] using o2
theorem kyR_inj {a b : List D} (ha : okR a) (hb : okR b) (h : kyR a = kyR b) : a = b := by
  unfold kyR at h
  injection h with h
  exact vos_inj ha.1 hb.1 h
theorem nkR_eq {a b : List D} (ha : okR a) (hb : okR b) : (nkD (kyR a) = nkD (kyR b)) ↔ eqR a b = true := by
  rw [eqR_iff ha hb]
  constructor
  · intro h
    obtain ⟨n, hn⟩ := nk_kyR ha
    rw [hn] at h
    obtain ⟨h1, _, _⟩ := nkD_some hn
    obtain ⟨h2, _, _⟩ := nkD_some h.symm
    exact kyR_inj ha hb (nkOf_inj _ _ _ h1 h2)
  · rintro rfl
    rfl
section
variable {α : Type} (f : α → List D) (h : α → D)
def addK (K : List (List D)) (κ : List D) : List (List D) := if K.any (fun x => eqR x κ) = true then K else K ++ [κ]
def keysOf (xs : List α) : List (List D) := xs.foldl (fun K x => addK K (f x)) []
def inG (κ : List D) (xs : List α) : List α := xs.filter fun x => eqR (f x) κ
def grpE (xs : List α) : List (D × D) := (keysOf f xs).map fun κ => (kyR κ, .list ((inG f κ xs).map h))
end
variable {α : Type} {f : α → List D} {h : α → D}
def okKs (K : List (List D)) : Prop := (∀ κ ∈ K, okR κ) ∧ K.Pairwise (· ≠ ·)
theorem addK_ok {K : List (List D)} {κ : List D} (hK : okKs K) (hκ : okR κ) : okKs (addK K κ) := by
  unfold addK
  split
  · exact hK
  · rename_i hn
    refine ⟨fun x hx => ?_, List.pairwise_append.mpr ⟨hK.2, List.pairwise_singleton _ _, fun a ha b hb e => ?_⟩⟩
    · rcases List.mem_append.mp hx with hx | hx
      · exact hK.1 x hx
      · rw [List.mem_singleton.mp hx]
        exact hκ
    · rw [List.mem_singleton.mp hb] at e
      subst e
      exact hn (List.any_eq_true.mpr ⟨a, ha, eqR_self hκ⟩)
theorem addK_has {K : List (List D)} {κ : List D} (hK : okKs K) (hκ : okR κ) : κ ∈ addK K κ ∧ ∀ x ∈ K, x ∈ addK K κ := by
  unfold addK
  split
  · rename_i hy
    obtain ⟨x, hx, e⟩ := List.any_eq_true.mp hy
    rw [(eqR_iff (hK.1 x hx) hκ).mp e] at hx
    exact ⟨hx, fun _ h => h⟩
  · exact ⟨by simp, fun x hx => List.mem_append_left _ hx⟩
theorem addK_len (K : List (List D)) (κ : List D) : (addK K κ).length ≤ K.length + 1 := by
  unfold addK
  split
  · omega
  · simp
theorem keysOf_snoc (f : α → List D) (xs : List α) (x : α) : keysOf f (xs ++ [x]) = addK (keysOf f xs) (f x) := by
  unfold keysOf
  rw [List.foldl_append]
  rfl
theorem keysOf_facts {xs : List α} (hx : ∀ x ∈ xs, okR (f x)) : okKs (keysOf f xs) ∧ (∀ x ∈ xs, f x ∈ keysOf f xs) ∧ (keysOf f xs).length ≤ xs.length := by
  have go : ∀ (ys : List α) (K : List (List D)), (∀ x ∈ ys, okR (f x)) → okKs K → okKs (ys.foldl (fun K x => addK K (f x)) K) ∧ (∀ x ∈ ys, f x ∈ ys.foldl (fun K x => addK K (f x)) K) ∧ (∀ κ ∈ K, κ ∈ ys.foldl (fun K x => addK K (f x)) K) ∧ (ys.foldl (fun K x => addK K (f x)) K).length ≤ K.length + ys.length := by
    intro ys
    induction ys with
    | nil => exact fun K _ hK => ⟨hK, by simp, fun κ h => h, Nat.le_refl _⟩
    | cons y ys ih =>
      intro K hy hK
      have oy := hy y List.mem_cons_self
      obtain ⟨i1, i2, i3, i4⟩ := ih (addK K (f y)) (fun x hx => hy x (List.mem_cons_of_mem _ hx)) (addK_ok hK oy)
      have hl := addK_len K (f y)
      refine ⟨i1, fun x hx => ?_, fun κ hκ => i3 κ ((addK_has hK oy).2 κ hκ), by rw [List.foldl_cons, List.length_cons]; omega⟩
      rcases List.mem_cons.mp hx with rfl | hx
      · exact i3 _ (addK_has hK oy).1
      · exact i2 x hx
  obtain ⟨a, b, _, c⟩ := go xs [] hx ⟨by simp, List.Pairwise.nil⟩
  exact ⟨a, b, by rw [List.length_nil, Nat.zero_add] at c; exact c⟩
theorem appG_map {g : List D → List D} {κ : List D} {d : D} (hκ : okR κ) : ∀ {K : List (List D)}, okKs K → appG (K.map fun x => (kyR x, .list (g x))) (kyR κ) d =
    if K.any (fun x => eqR x κ) = true then K.map fun x => (kyR x, .list (if eqR x κ = true then g x ++ [d] else g x)) else (K.map fun x => (kyR x, .list (g x))) ++ [(kyR κ, .list [d])]
  | [], _ => rfl
  | x :: K, hK => by
    have ox := hK.1 x List.mem_cons_self
    obtain ⟨n1, n2⟩ := List.pairwise_cons.mp hK.2
    have ih := appG_map (g := g) (d := d) hκ (K := K) ⟨fun y hy => hK.1 y (List.mem_cons_of_mem _ hy), n2⟩
    rw [List.map_cons, appG, List.any_cons]
    by_cases e : eqR x κ = true
    · rw [if_pos ((nkR_eq ox hκ).mpr e), e, Bool.true_or, if_pos rfl, List.map_cons, if_pos e]
      refine congrArg _ (List.map_congr_left fun y hy => ?_)
      have : eqR y κ = false := by
        cases q : eqR y κ with
        | false => rfl
        | true => exact absurd (((eqR_iff ox hκ).mp e).trans ((eqR_iff (hK.1 y (List.mem_cons_of_mem _ hy)) hκ).mp q).symm) (n1 y hy)
      rw [this, if_neg (by decide)]
    · rw [if_neg (fun q => e ((nkR_eq ox hκ).mp q)), ih]
      have e' : eqR x κ = false := by simpa using e
      rw [e', Bool.false_or]
      split
      · rw [List.map_cons, e', if_neg (by decide)]
      · rfl
theorem inG_snoc (κ : List D) (xs : List α) (x : α) : inG f κ (xs ++ [x]) = if eqR (f x) κ = true then inG f κ xs ++ [x] else inG f κ xs := by
  unfold inG
  rw [List.filter_append]
  by_cases e : eqR (f x) κ = true
  · rw [if_pos e, List.filter_cons_of_pos (p := fun x => eqR (f x) κ) e]
    rfl
  · rw [if_neg e, List.filter_cons_of_neg (p := fun x => eqR (f x) κ) e, List.filter_nil, List.append_nil]
theorem eqR_comm {a b : List D} : eqR a b = eqR b a := by
  unfold eqR
  rw [Bool.and_comm]
theorem grpE_snoc {xs : List α} {x : α} (hx : ∀ y ∈ xs ++ [x], okR (f y)) : appG (grpE f h xs) (kyR (f x)) (h x) = grpE f h (xs ++ [x]) := by
  have ox := hx x (by simp)
  have hxs : ∀ y ∈ xs, okR (f y) := fun y hy => hx y (List.mem_append_left _ hy)
  obtain ⟨k1, k2, k3⟩ := keysOf_facts hxs
  unfold grpE
  rw [appG_map (g := fun κ => (inG f κ xs).map h) ox k1, keysOf_snoc]
  unfold addK
  split
  · refine List.map_congr_left fun κ hκ => ?_
    rw [inG_snoc, eqR_comm]
    by_cases e : eqR (f x) κ = true
    · rw [if_pos e, if_pos e, List.map_append]
      rfl
    · rw [if_neg e, if_neg e]
  · rename_i hn
    rw [List.map_append]
    congr 1
    · refine List.map_congr_left fun κ hκ => ?_
      have e : eqR (f x) κ = false := by
        cases q : eqR (f x) κ with
        | false => rfl
        | true => exact absurd (List.any_eq_true.mpr ⟨κ, hκ, by rw [eqR_comm]; exact q⟩) hn
      rw [inG_snoc, e, if_neg (by decide)]
    · have e2 : inG f (f x) xs = [] := List.filter_eq_nil_iff.mpr fun y hy q => hn (List.any_eq_true.mpr ⟨f y, k2 y hy, q⟩)
      rw [List.map_cons, List.map_nil, inG_snoc, eqR_self ox, if_pos rfl, e2]
      rfl
theorem lenG_map {g : List D → List D} {κ : List D} {n : Nat} : ∀ {K : List (List D)}, (∀ x ∈ K, (g x).length ≤ n) → lenG (K.map fun x => (kyR x, .list (g x))) (kyR κ) ≤ n
  | [], _ => Nat.zero_le _
  | x :: K, hK => by
    rw [List.map_cons, lenG]
    split
    · exact hK x List.mem_cons_self
    · exact lenG_map fun y hy => hK y (List.mem_cons_of_mem _ hy)
theorem grpE_len {xs : List α} (κ : List D) : lenG (grpE f h xs) (kyR κ) ≤ xs.length := lenG_map fun x _ => by
  rw [List.length_map]
  exact List.length_filter_le _ _
theorem keysTup_map {g : List D → D} (K : List (List D)) : keysTup (K.map fun κ => (kyR κ, g κ)) = true := by
  unfold keysTup
  rw [List.all_map, List.all_eq_true]
  exact fun _ _ => rfl
theorem atD_map {g : List D → D} {κ : List D} : ∀ {K : List (List D)}, okKs K → κ ∈ K → atD (K.map fun x => (kyR x, g x)) (kyR κ) = some (g κ)
  | x :: K, hK, hκ => by
    have ox := hK.1 x List.mem_cons_self
    have oκ := hK.1 κ hκ
    obtain ⟨n1, n2⟩ := List.pairwise_cons.mp hK.2
    unfold atD
    rw [List.map_cons, List.find?_cons]
    show ((match decide (nkD (kyR x) = nkD (kyR κ)) with | true => _ | false => _ : Option (D × D)).map _) = _
    by_cases e : eqR x κ = true
    · rw [decide_eq_true ((nkR_eq ox oκ).mpr e)]
      have := (eqR_iff ox oκ).mp e
      rw [← this]
      rfl
    · rw [decide_eq_false fun q => e ((nkR_eq ox oκ).mp q)]
      rcases List.mem_cons.mp hκ with rfl | hκ
      · exact absurd (eqR_self ox) e
      · exact atD_map ⟨fun y hy => hK.1 y (List.mem_cons_of_mem _ hy), n2⟩ hκ
theorem atD_none {g : List D → D} {κ : List D} (oκ : okR κ) : ∀ {K : List (List D)}, okKs K → κ ∉ K → atD (K.map fun x => (kyR x, g x)) (kyR κ) = none
  | [], _, _ => rfl
  | x :: K, hK, hκ => by
    have ox := hK.1 x List.mem_cons_self
    unfold atD
    rw [List.map_cons, List.find?_cons]
    show ((match decide (nkD (kyR x) = nkD (kyR κ)) with | true => _ | false => _ : Option (D × D)).map _) = _
    have e : ¬ eqR x κ = true := fun q => hκ (by rw [(eqR_iff ox oκ).mp q]; exact List.mem_cons_self)
    rw [decide_eq_false fun q => e ((nkR_eq ox oκ).mp q)]
    exact atD_none oκ ⟨fun y hy => hK.1 y (List.mem_cons_of_mem _ hy), (List.pairwise_cons.mp hK.2).2⟩ fun q => hκ (List.mem_cons_of_mem _ q)
theorem kyR_ord {κ : List D} (h : okR κ) : (ord0 (kyR κ) = true ∧ (kyR κ).canLay0 = true) ∧ (kyR κ).depth ≤ 8 := by
  obtain ⟨o1, o2, o3⟩ := vo_ord h.1
  refine ⟨⟨?_, ?_⟩, ?_⟩
  · simpa [kyR, ord0] using o1
  · simpa [kyR, PyData.canLay0] using o2
  · simp [kyR, PyData.depth]
    omega
/-- the keys can be sorted: all have a first column, or there is one key at most -/
theorem sortOkN_keys {K : List (List D)} (hK : okKs K) (hl : K.length ≤ 16777216) (hn : (∀ κ ∈ K, κ ≠ []) ∨ K.length < 2) : sortOkN (K.map kyR) = true := by
  have facts : ∀ d ∈ K.map kyR, (ord0 d = true ∧ d.canLay0 = true) ∧ d.depth ≤ 8 := fun d hd => by
    obtain ⟨κ, hκ, rfl⟩ := List.mem_map.mp hd
    exact kyR_ord (hK.1 κ hκ)
  unfold sortOkN
  rw [Bool.or_eq_true]
  rcases hn with hn | hn
  · refine .inl ?_
    unfold sortOk
    simp only [Bool.and_eq_true, List.all_eq_true, decide_eq_true_eq, Bool.or_eq_true]
    refine ⟨⟨⟨by rw [List.length_map]; exact hl, facts⟩, fun d hd e he => ?_⟩, .inl (.inr fun d hd => ?_)⟩
    · obtain ⟨κ, hκ, rfl⟩ := List.mem_map.mp hd
      obtain ⟨κ', hκ', rfl⟩ := List.mem_map.mp he
      show (DnLt.ltB (.tuple (κ.map vo)) (.tuple (κ'.map vo))).isSome = true
      rw [DnLt.ltB, ltA_vo (hK.1 κ hκ).1 (hK.1 κ' hκ').1]
      rfl
    · obtain ⟨κ, hκ, rfl⟩ := List.mem_map.mp hd
      cases κ with
      | nil => exact absurd rfl (hn _ hκ)
      | cons v κ =>
        show isT (vo v) = true
        obtain ⟨ds, e⟩ := vo_tup v
        rw [e]
        rfl
  · refine .inr ?_
    simp only [Bool.and_eq_true, List.all_eq_true, decide_eq_true_eq]
    exact ⟨by rw [List.length_map]; exact hn, facts⟩
theorem perm_unmap {β : Type} {g : β → D} {l1 l2 : List D} (p : l1.Perm l2) : ∀ xs : List β, l2 = xs.map g → ∃ ys : List β, l1 = ys.map g ∧ ys.Perm xs := by
  induction p with
  | nil =>
    intro xs e
    have : xs = [] := List.map_eq_nil_iff.mp e.symm
    subst this
    exact ⟨[], rfl, .refl _⟩
  | cons a p ih =>
    intro xs e
    cases xs with
    | nil => cases e
    | cons x xs =>
      rw [List.map_cons] at e
      injection e with e1 e2
      obtain ⟨ys, h1, h2⟩ := ih xs e2
      exact ⟨x :: ys, by rw [List.map_cons, e1, h1], h2.cons x⟩
  | swap a b l =>
    intro xs e
    cases xs with
    | nil => cases e
    | cons x xs =>
      cases xs with
      | nil => cases e
      | cons y xs =>
        rw [List.map_cons, List.map_cons] at e
        injection e with e1 e2
        injection e2 with e2 e3
        exact ⟨y :: x :: xs, by rw [List.map_cons, List.map_cons, e1, e2, e3], .swap _ _ _⟩
  | trans p q i1 i2 =>
    intro xs e
    obtain ⟨ys, h1, h2⟩ := i2 xs e
    obtain ⟨zs, h3, h4⟩ := i1 ys h1
    exact ⟨zs, h3, h4.trans h2⟩
theorem sort_keys (K : List (List D)) : ∃ K' : List (List D), (K.map kyR).mergeSort leD3 = K'.map kyR ∧ K'.Perm K := perm_unmap (List.mergeSort_perm _ _) K rfl
theorem okKs_perm {K K' : List (List D)} (p : K'.Perm K) (h : okKs K) : okKs K' := ⟨fun κ hκ => h.1 κ (p.mem_iff.mp hκ), p.symm.pairwise h.2 fun h => Ne.symm h⟩
open Classical in
/-- weights of what is told group by group -/
theorem wt_groups {κ0 : List D} {k : Ky} {G : List D → List Mv} : ∀ {K : List (List D)}, okKs K → (∀ κ ∈ K, κ ≠ κ0 → wt (G κ) k = 0) → wt (K.map G).flatten k = if κ0 ∈ K then wt (G κ0) k else 0
  | [], _, _ => by simp [wt_nil]
  | x :: K, hK, hz => by
    obtain ⟨n1, n2⟩ := List.pairwise_cons.mp hK.2
    have ih := wt_groups (κ0 := κ0) (k := k) (G := G) (K := K) ⟨fun y hy => hK.1 y (List.mem_cons_of_mem _ hy), n2⟩ fun κ hκ => hz κ (List.mem_cons_of_mem _ hκ)
    rw [List.map_cons, List.flatten_cons, wt_app, ih]
    by_cases e : x = κ0
    · subst e
      have : x ∉ K := fun q => n1 x q rfl
      rw [if_neg this, if_pos List.mem_cons_self, Int.add_zero]
    · rw [hz x List.mem_cons_self e, Int.zero_add]
      by_cases q : κ0 ∈ K
      · rw [if_pos q, if_pos (List.mem_cons_of_mem _ q)]
      · rw [if_neg q, if_neg fun z => (List.mem_cons.mp z).elim (fun z => e z.symm) q]
end Lw
set_option maxHeartbeats 4000000
namespace Lw
open PySem PySem.Spec PyProof.Rows L2 Dn
def topS (i : Nat) : Stmt := PySem.Challenge.pw_tideweir_k22_nears.main.body.getD i (.Pass ⟨0, 0, 0, 0⟩)
abbrev s__law_cell : Stmt := topS 57
abbrev N__law_cell : List Str := ["script", "k"]
theorem sc__law_cell : FnScope N__law_cell ["script", "k"] (defScope s__law_cell) := ⟨rfl, rfl, rfl, by decide +kernel, rfl, by decide +kernel, by decide +kernel⟩
def g__law_cell : Sd := (sSeq (sIf (gTst (gBin ltD (gVar 1) (gApp lenF (gCons (gVar 0) gNil)))) (sRet (gBin ixD (gVar 0) (gVar 1))) sNext)
  (sRet (gC (.int 0))))
def f__law_cell : List D → Option D := runV 2 g__law_cell
abbrev s__law_digit : Stmt := topS 59
abbrev N__law_digit : List Str := ["state", "many", "digit"]
theorem sc__law_digit : FnScope N__law_digit ["state", "many"] (defScope s__law_digit) := ⟨rfl, rfl, rfl, by decide +kernel, rfl, by decide +kernel, by decide +kernel⟩
def g__law_digit : Sd := (sSeq (sSet 2 (gBin modD (gApp intF (gCons (gIxB 0 (gC (.int 0))) gNil)) (gVar 1)))
  (sSeq (sSetIx 0 (gBin fdivD (gIxB 0 (gC (.int 0))) (gVar 1)) (gC (.int 0)))
  (sRet (gVar 2))))
def f__law_digit : D → List D → Option (D × D) := runIO 3 g__law_digit
abbrev s__law_rank : Stmt := topS 65
abbrev N__law_rank : List Str := ["value"]
theorem sc__law_rank : FnScope N__law_rank ["value"] (defScope s__law_rank) := ⟨rfl, rfl, rfl, by decide +kernel, rfl, by decide +kernel, by decide +kernel⟩
def g__law_rank : Sd := (sSeq (sIf (gTst (gBin isD (gVar 0) (gC .none))) (sRet (gC (.int 0))) sNext)
  (sSeq (sIf (gTru (gApp (isiF "bool") (gCons (gVar 0) gNil))) (sRet (gBin addD (gC (.int 1)) (gApp intF (gCons (gVar 0) gNil)))) sNext)
  (sSeq (sIf (gTru (gApp (isiF "int") (gCons (gVar 0) gNil))) (sRet (gC (.int 3))) sNext)
  (sRet (gC (.int 4))))))
def f__law_rank : List D → Option D := runV 1 g__law_rank
abbrev s__law_before : Stmt := topS 66
abbrev N__law_before : List Str := ["first", "second"]
theorem sc__law_before : FnScope N__law_before ["first", "second"] (defScope s__law_before) := ⟨rfl, rfl, rfl, by decide +kernel, rfl, by decide +kernel, by decide +kernel⟩
def g__law_before : Sd := (sSeq (sIf (gTst (gBin neD (gApp f__law_rank (gCons (gVar 0) gNil)) (gApp f__law_rank (gCons (gVar 1) gNil)))) (sRet (gBin ltD (gApp f__law_rank (gCons (gVar 0) gNil)) (gApp f__law_rank (gCons (gVar 1) gNil)))) sNext)
  (sSeq (sIf (gTst (gBin ltD (gApp f__law_rank (gCons (gVar 0) gNil)) (gC (.int 3)))) (sRet (gC (.bool false))) sNext)
  (sRet (gBin ltD (gVar 0) (gVar 1)))))
def f__law_before : List D → Option D := runV 2 g__law_before
abbrev s__law_row_before : Stmt := topS 67
abbrev N__law_row_before : List Str := ["first", "second", "k"]
theorem sc__law_row_before : FnScope N__law_row_before ["first", "second"] (defScope s__law_row_before) := ⟨rfl, rfl, rfl, by decide +kernel, rfl, by decide +kernel, by decide +kernel⟩
def g__law_row_before : Sd := (sSeq (sFor (gRng1 (gCons (gApp minF (gCons (gApp lenF (gCons (gVar 0) gNil)) (gCons (gApp lenF (gCons (gVar 1) gNil)) gNil))) gNil)) (gTN 2)
  (sSeq (sIf (gTru (gApp f__law_before (gCons (gBin ixD (gVar 0) (gVar 2)) (gCons (gBin ixD (gVar 1) (gVar 2)) gNil)))) (sRet (gC (.bool true))) sNext)
  (sIf (gTru (gApp f__law_before (gCons (gBin ixD (gVar 1) (gVar 2)) (gCons (gBin ixD (gVar 0) (gVar 2)) gNil)))) (sRet (gC (.bool false))) sNext)))
  (sRet (gBin ltD (gApp lenF (gCons (gVar 0) gNil)) (gApp lenF (gCons (gVar 1) gNil)))))
def f__law_row_before : List D → Option D := runV 3 g__law_row_before
abbrev s__law_alike : Stmt := topS 68
abbrev N__law_alike : List Str := ["first", "second"]
theorem sc__law_alike : FnScope N__law_alike ["first", "second"] (defScope s__law_alike) := ⟨rfl, rfl, rfl, by decide +kernel, rfl, by decide +kernel, by decide +kernel⟩
def g__law_alike : Sd := (sRet (gAndV (gNotV (gApp f__law_row_before (gCons (gVar 0) (gCons (gVar 1) gNil)))) (gNotV (gApp f__law_row_before (gCons (gVar 1) (gCons (gVar 0) gNil))))))
def f__law_alike : List D → Option D := runV 2 g__law_alike
abbrev s__law_add : Stmt := topS 69
abbrev N__law_add : List Str := ["found", "time", "row", "weight", "k"]
theorem sc__law_add : FnScope N__law_add ["found", "time", "row", "weight"] (defScope s__law_add) := ⟨rfl, rfl, rfl, by decide +kernel, rfl, by decide +kernel, by decide +kernel⟩
def g__law_add : Sd := (sSeq (sFor (gRng1 (gCons (gPk 0 lenF) gNil)) (gTN 4)
  (sIf (gAnd (gTst (gBin eqD (gBin ixD (gIxB 0 (gVar 4)) (gC (.int 0))) (gVar 1))) (gTru (gApp f__law_alike (gCons (gBin ixD (gIxB 0 (gVar 4)) (gC (.int 1))) (gCons (gVar 2) gNil))))) (sSeq (sSetIx 0 (gApp mkTup (gCons (gVar 1) (gCons (gBin ixD (gIxB 0 (gVar 4)) (gC (.int 1))) (gCons (gBin addD (gBin ixD (gIxB 0 (gVar 4)) (gC (.int 2))) (gVar 3)) gNil)))) (gVar 4))
  (sRet (gC .none))) sNext))
  (sSeq (sApp 0 (gApp mkTup (gCons (gVar 1) (gCons (gVar 2) (gCons (gVar 3) gNil)))))
  (sRet (gC .none))))
def f__law_add : D → List D → Option (D × D) := runIO 5 g__law_add
abbrev s__law_move_before : Stmt := topS 70
abbrev N__law_move_before : List Str := ["first", "second"]
theorem sc__law_move_before : FnScope N__law_move_before ["first", "second"] (defScope s__law_move_before) := ⟨rfl, rfl, rfl, by decide +kernel, rfl, by decide +kernel, by decide +kernel⟩
def g__law_move_before : Sd := (sSeq (sIf (gTst (gBin neD (gBin ixD (gVar 0) (gC (.int 0))) (gBin ixD (gVar 1) (gC (.int 0))))) (sRet (gBin ltD (gBin ixD (gVar 0) (gC (.int 0))) (gBin ixD (gVar 1) (gC (.int 0))))) sNext)
  (sRet (gApp f__law_row_before (gCons (gBin ixD (gVar 0) (gC (.int 1))) (gCons (gBin ixD (gVar 1) (gC (.int 1))) gNil)))))
def f__law_move_before : List D → Option D := runV 2 g__law_move_before
abbrev s__law_flow : Stmt := topS 71
abbrev N__law_flow : List Str := ["moves", "found", "move", "ordered", "place", "other"]
theorem sc__law_flow : FnScope N__law_flow ["moves"] (defScope s__law_flow) := ⟨rfl, rfl, rfl, by decide +kernel, rfl, by decide +kernel, by decide +kernel⟩
def g__law_flow : Sd := (sSeq (sOwn 1 (gApp mkLst gNil))
  (sSeq (sFor (gSeq (gVar 0)) (gTN 2)
  (sDrop (gCallIO 1 f__law_add (gCons (gBin ixD (gVar 2) (gC (.int 0))) (gCons (gBin ixD (gVar 2) (gC (.int 1))) (gCons (gBin ixD (gVar 2) (gC (.int 2))) gNil))))))
  (sSeq (sSet 3 (gApp mkLst gNil))
  (sSeq (sFor (gSeq (gFrz 1)) (gTN 2)
  (sIf (gTst (gBin neD (gBin ixD (gVar 2) (gC (.int 2))) (gC (.int 0)))) (sSeq (sSet 4 (gApp lenF (gCons (gLc [5] (gSeq (gVar 3)) (gTN 5) (gTru (gApp f__law_move_before (gCons (gVar 5) (gCons (gVar 2) gNil)))) (gVar 5)) gNil)))
  (sSet 3 (gBin addD (gBin addD (gSl (gVar 3) gNoP (gPart (gVar 4))) (gApp mkLst (gCons (gVar 2) gNil))) (gSl (gVar 3) (gPart (gVar 4)) gNoP)))) sNext))
  (sRet (gVar 3))))))
def f__law_flow : List D → Option D := runV 6 g__law_flow
abbrev s__law_value : Stmt := topS 60
abbrev N__law_value : List Str := ["state", "kind"]
theorem sc__law_value : FnScope N__law_value ["state", "kind"] (defScope s__law_value) := ⟨rfl, rfl, rfl, by decide +kernel, rfl, by decide +kernel, by decide +kernel⟩
def g__law_value : Sd := (sSeq (sIf (gTst (gBin eqD (gCallIO 0 f__law_digit (gCons (gC (.int 5)) gNil)) (gC (.int 0)))) (sRet (gC .none)) sNext)
  (sSeq (sIf (gTst (gBin eqD (gVar 1) (gC (.str "flag")))) (sRet (gBin eqD (gCallIO 0 f__law_digit (gCons (gC (.int 2)) gNil)) (gC (.int 1)))) sNext)
  (sSeq (sIf (gTst (gBin eqD (gVar 1) (gC (.str "whole")))) (sRet (gBin ixD (gApp mkLst (gCons (gC (.int 0)) (gCons (gC (.int 1)) (gCons (gC (.int 2)) (gCons (gUn negD (gC (.int 1))) (gCons (gC (.int 7)) (gCons (gC (.int 999999999)) (gCons (gC (.int 1)) (gCons (gC (.int 0)) gNil))))))))) (gCallIO 0 f__law_digit (gCons (gC (.int 8)) gNil)))) sNext)
  (sRet (gBin ixD (gApp mkTup (gCons (gC (.str "")) (gCons (gC (.str "a")) (gCons (gC (.str "b")) (gCons (gC (.str "a")) (gCons (gC (.str "b")) gNil)))))) (gCallIO 0 f__law_digit (gCons (gC (.int 5)) gNil)))))))
def f__law_value : D → List D → Option (D × D) := runIO 2 g__law_value
abbrev s__law_row : Stmt := topS 61
abbrev N__law_row : List Str := ["state", "fields", "field"]
theorem sc__law_row : FnScope N__law_row ["state", "fields"] (defScope s__law_row) := ⟨rfl, rfl, rfl, by decide +kernel, rfl, by decide +kernel, by decide +kernel⟩
def g__law_row : Sd := (sRet (gApp tupF (gCons (gLc [2] (gSeq (gVar 1)) (gTN 2) gTrue (gCallIO 0 f__law_value (gCons (gBin ixD (gVar 2) (gC (.int 1))) gNil))) gNil)))
def f__law_row : D → List D → Option (D × D) := runIO 3 g__law_row
abbrev s__law_events : Stmt := topS 63
abbrev N__law_events : List Str := ["state", "fields", "many", "moves", "k"]
theorem sc__law_events : FnScope N__law_events ["state", "fields", "many"] (defScope s__law_events) := ⟨rfl, rfl, rfl, by decide +kernel, rfl, by decide +kernel, by decide +kernel⟩
def g__law_events : Sd := (sSeq (sOwn 3 (gApp mkLst gNil))
  (sSeq (sFor (gRng1 (gCons (gVar 2) gNil)) (gTN 4)
  (sApp 3 (gApp mkTup (gCons (gCallIO 0 f__law_digit (gCons (gC (.int 12)) gNil)) (gCons (gCallIO 0 f__law_row (gCons (gVar 1) gNil)) (gCons (gBin ixD (gApp mkLst (gCons (gC (.int 1)) (gCons (gC (.int 1)) (gCons (gC (.int 2)) gNil)))) (gCallIO 0 f__law_digit (gCons (gC (.int 3)) gNil))) gNil))))))
  (sRet (gApp f__law_flow (gCons (gFrz 3) gNil)))))
def f__law_events : D → List D → Option (D × D) := runIO 5 g__law_events
abbrev s__law_key : Stmt := topS 76
abbrev N__law_key : List Str := ["row", "fields", "columns", "names", "field", "name"]
theorem sc__law_key : FnScope N__law_key ["row", "fields", "columns"] (defScope s__law_key) := ⟨rfl, rfl, rfl, by decide +kernel, rfl, by decide +kernel, by decide +kernel⟩
def g__law_key : Sd := (sSeq (sSet 3 (gLc [4] (gSeq (gVar 1)) (gTN 4) gTrue (gBin ixD (gVar 4) (gC (.int 0)))))
  (sRet (gApp tupF (gCons (gLc [5] (gSeq (gVar 2)) (gTN 5) gTrue (gBin ixD (gVar 0) (gInd (gVar 3) (gVar 5)))) gNil))))
def f__law_key : List D → Option D := runV 6 g__law_key
abbrev s__law_meet : Stmt := topS 79
abbrev N__law_meet : List Str := ["one", "two", "fields", "others", "pairs", "left", "pair"]
theorem sc__law_meet : FnScope N__law_meet ["one", "two", "fields", "others", "pairs"] (defScope s__law_meet) := ⟨rfl, rfl, rfl, by decide +kernel, rfl, by decide +kernel, by decide +kernel⟩
def g__law_meet : Sd := (sSeq (sSet 5 (gApp f__law_key (gCons (gVar 0) (gCons (gVar 2) (gCons (gLc [6] (gSeq (gVar 4)) (gTN 6) gTrue (gBin ixD (gVar 6) (gC (.int 0)))) gNil)))))
  (sRet (gApp f__law_alike (gCons (gVar 5) (gCons (gApp f__law_key (gCons (gVar 1) (gCons (gVar 3) (gCons (gLc [6] (gSeq (gVar 4)) (gTN 6) gTrue (gBin ixD (gVar 6) (gC (.int 1)))) gNil)))) gNil)))))
def f__law_meet : List D → Option D := runV 7 g__law_meet
abbrev s__law_made : Stmt := topS 80
abbrev N__law_made : List Str := ["operator", "fields", "others", "first", "second", "moves", "one", "met", "two", "close", "field"]
theorem sc__law_made : FnScope N__law_made ["operator", "fields", "others", "first", "second"] (defScope s__law_made) := ⟨rfl, rfl, rfl, by decide +kernel, rfl, by decide +kernel, by decide +kernel⟩
def g__law_made : Sd := (sSeq (sSet 5 (gApp mkLst gNil))
  (sSeq (sFor (gSeq (gVar 3)) (gTN 6)
  (sSeq (sOwn 7 (gApp mkLst gNil))
  (sSeq (sFor (gSeq (gVar 4)) (gTN 8)
  (sSeq (sSet 9 (gChain leD leD (gBin addD (gBin ixD (gVar 6) (gC (.int 0))) (gBin ixD (gVar 0) (gC (.int 2)))) (gBin ixD (gVar 8) (gC (.int 0))) (gBin addD (gBin ixD (gVar 6) (gC (.int 0))) (gBin ixD (gVar 0) (gC (.int 3))))))
  (sIf (gAnd (gTru (gVar 9)) (gTru (gApp f__law_meet (gCons (gBin ixD (gVar 6) (gC (.int 1))) (gCons (gBin ixD (gVar 8) (gC (.int 1))) (gCons (gVar 1) (gCons (gVar 2) (gCons (gBin ixD (gVar 0) (gC (.int 1))) gNil)))))))) (sApp 7 (gApp mkTup (gCons (gApp maxF (gCons (gBin ixD (gVar 6) (gC (.int 0))) (gCons (gBin ixD (gVar 8) (gC (.int 0))) gNil))) (gCons (gBin addD (gBin ixD (gVar 6) (gC (.int 1))) (gBin ixD (gVar 8) (gC (.int 1)))) (gCons (gBin mulD (gBin ixD (gVar 6) (gC (.int 2))) (gBin ixD (gVar 8) (gC (.int 2)))) gNil))))) sNext)))
  (sSeq (sIf (gAnd (gTst (gOpBL eqD 7 (gApp mkLst gNil))) (gTst (gBin eqD (gBin ixD (gVar 0) (gC (.int 4))) (gC (.str "left"))))) (sApp 7 (gApp mkTup (gCons (gApp maxF (gCons (gBin ixD (gVar 6) (gC (.int 0))) (gCons (gBin addD (gBin ixD (gVar 6) (gC (.int 0))) (gBin ixD (gVar 0) (gC (.int 3)))) gNil))) (gCons (gBin addD (gBin ixD (gVar 6) (gC (.int 1))) (gApp tupF (gCons (gLc [10] (gSeq (gVar 2)) (gTN 10) gTrue (gC .none)) gNil))) (gCons (gBin ixD (gVar 6) (gC (.int 2))) gNil))))) sNext)
  (sSet 5 (gBin addD (gVar 5) (gFrz 7)))))))
  (sRet (gApp f__law_flow (gCons (gVar 5) gNil)))))
def f__law_made : List D → Option D := runV 11 g__law_made
abbrev s__law_pairs : Stmt := topS 78
abbrev N__law_pairs : List Str := ["state", "first", "second", "pairs", "field", "used", "other", "pair", "one"]
theorem sc__law_pairs : FnScope N__law_pairs ["state", "first", "second"] (defScope s__law_pairs) := ⟨rfl, rfl, rfl, by decide +kernel, rfl, by decide +kernel, by decide +kernel⟩
def g__law_pairs : Sd := (sSeq (sOwn 3 (gApp mkLst gNil))
  (sSeq (sFor (gSeq (gVar 1)) (gTN 4)
  (sSeq (sSet 5 (gLcW 3 [7] (gTN 7) gTrue (gBin ixD (gVar 7) (gC (.int 1)))))
  (sSeq (sOwn 6 (gLc [8] (gSeq (gVar 2)) (gTN 8) (gAnd (gTst (gBin eqD (gBin ixD (gVar 8) (gC (.int 1))) (gBin ixD (gVar 4) (gC (.int 1))))) (gTst (gBin ninD (gBin ixD (gVar 8) (gC (.int 0))) (gVar 5)))) (gBin ixD (gVar 8) (gC (.int 0)))))
  (sIf (gAnd (gTst (gBin gtD (gPk 6 lenF) (gC (.int 0)))) (gOr (gTst (gOpBL eqD 3 (gApp mkLst gNil))) (gTst (gBin eqD (gCallIO 0 f__law_digit (gCons (gC (.int 2)) gNil)) (gC (.int 0)))))) (sApp 3 (gApp mkTup (gCons (gBin ixD (gVar 4) (gC (.int 0))) (gCons (gIxB 6 (gCallIO 0 f__law_digit (gCons (gPk 6 lenF) gNil))) gNil)))) sNext))))
  (sRet (gApp tupF (gCons (gFrz 3) gNil)))))
def f__law_pairs : D → List D → Option (D × D) := runIO 9 g__law_pairs
abbrev s__law_same_flow : Stmt := topS 72
abbrev N__law_same_flow : List Str := ["first", "second", "k"]
theorem sc__law_same_flow : FnScope N__law_same_flow ["first", "second"] (defScope s__law_same_flow) := ⟨rfl, rfl, rfl, by decide +kernel, rfl, by decide +kernel, by decide +kernel⟩
def g__law_same_flow : Sd := (sSeq (sIf (gOr (gNot (gTru (gApp (isiF "list") (gCons (gVar 0) gNil)))) (gTst (gBin neD (gApp lenF (gCons (gVar 0) gNil)) (gApp lenF (gCons (gVar 1) gNil))))) (sRet (gC (.bool false))) sNext)
  (sSeq (sFor (gRng1 (gCons (gApp lenF (gCons (gVar 1) gNil)) gNil)) (gTN 2)
  (sIf (gOr (gTst (gBin neD (gBin ixD (gBin ixD (gVar 0) (gVar 2)) (gC (.int 0))) (gBin ixD (gBin ixD (gVar 1) (gVar 2)) (gC (.int 0))))) (gOr (gTst (gBin neD (gBin ixD (gBin ixD (gVar 0) (gVar 2)) (gC (.int 2))) (gBin ixD (gBin ixD (gVar 1) (gVar 2)) (gC (.int 2))))) (gNot (gTru (gApp f__law_alike (gCons (gBin ixD (gBin ixD (gVar 0) (gVar 2)) (gC (.int 1))) (gCons (gBin ixD (gBin ixD (gVar 1) (gVar 2)) (gC (.int 1))) gNil))))))) (sRet (gC (.bool false))) sNext))
  (sRet (gC (.bool true)))))
def f__law_same_flow : List D → Option D := runV 3 g__law_same_flow
abbrev s__law_start : Stmt := topS 58
abbrev N__law_start : List Str := ["cell", "k", "prime", "mixed", "number", "turn"]
theorem sc__law_start : FnScope N__law_start ["cell", "k"] (defScope s__law_start) := ⟨rfl, rfl, rfl, by decide +kernel, rfl, by decide +kernel, by decide +kernel⟩
def g__law_start : Sd := (sSeq (sSet 2 (gC (.int 618970019642690137449562111)))
  (sSeq (sIf (gTst (gChain ltD ltD (gUn negD (gC (.int 1000000000000000000))) (gVar 0) (gC (.int 1000000000000000000)))) (sSeq (sSet 3 (gBin modD (gApp intF (gCons (gBin addD (gBin mulS (gVar 0) (gC (.int 2654435761))) (gBin mulS (gBin addD (gVar 1) (gC (.int 1))) (gC (.int 6700417)))) gNil)) (gVar 2)))
  (sSeq (sSet 4 (gC (.int 0)))
  (sSeq (sFor (gRng1 (gCons (gC (.int 4)) gNil)) (gTN 5)
  (sSeq (sSet 3 (gBin modD (gApp intF (gCons (gBin addD (gBin addD (gBin addD (gBin mulD (gVar 3) (gVar 3)) (gBin mulD (gC (.int 7)) (gVar 3))) (gVar 1)) (gVar 5)) gNil)) (gVar 2)))
  (sSet 4 (gBin addD (gBin mulD (gVar 4) (gVar 2)) (gVar 3)))))
  (sRof (gApp mkLst (gCons (gVar 4) gNil)))))) sNext)
  (sRof (gApp mkLst (gCons (gApp absF (gCons (gVar 0) gNil)) gNil)))))
def f__law_start : List D → Option D := runF 6 g__law_start
abbrev s__law_three : Stmt := topS 62
abbrev N__law_three : List Str := ["state", "names", "kinds", "name"]
theorem sc__law_three : FnScope N__law_three ["state", "names"] (defScope s__law_three) := ⟨rfl, rfl, rfl, by decide +kernel, rfl, by decide +kernel, by decide +kernel⟩
def g__law_three : Sd := (sSeq (sSet 2 (gApp mkLst (gCons (gC (.str "flag")) (gCons (gC (.str "whole")) (gCons (gC (.str "text")) (gCons (gC (.str "whole")) gNil))))))
  (sRet (gApp tupF (gCons (gLc [3] (gSeq (gSl (gVar 1) gNoP (gPart (gBin addD (gC (.int 1)) (gCallIO 0 f__law_digit (gCons (gC (.int 3)) gNil)))))) (gTN 3) gTrue (gApp mkTup (gCons (gVar 3) (gCons (gBin ixD (gVar 2) (gCallIO 0 f__law_digit (gCons (gC (.int 4)) gNil))) gNil)))) gNil))))
def f__law_three : D → List D → Option (D × D) := runIO 4 g__law_three
abbrev s_value_order : Stmt := topS 1
abbrev N_value_order : List Str := ["value"]
theorem sc_value_order : FnScope N_value_order ["value"] (defScope s_value_order) := ⟨rfl, rfl, rfl, by decide +kernel, rfl, by decide +kernel, by decide +kernel⟩
def g_value_order : Sd := (sSeq (sIf (gTst (gBin isD (gVar 0) (gC .none))) (sRet (gApp mkTup (gCons (gC (.int 0)) (gCons (gC (.int 0)) gNil)))) sNext)
  (sSeq (sIf (gTru (gApp (isiF "bool") (gCons (gVar 0) gNil))) (sRet (gApp mkTup (gCons (gC (.int 1)) (gCons (gApp intF (gCons (gVar 0) gNil)) gNil)))) sNext)
  (sSeq (sIf (gTru (gApp (isiF "int") (gCons (gVar 0) gNil))) (sRet (gApp mkTup (gCons (gC (.int 2)) (gCons (gVar 0) gNil)))) sNext)
  (sRet (gApp mkTup (gCons (gC (.int 3)) (gCons (gVar 0) gNil)))))))
def f_value_order : List D → Option D := runV 1 g_value_order
abbrev s_row_order : Stmt := topS 2
abbrev N_row_order : List Str := ["row", "value"]
theorem sc_row_order : FnScope N_row_order ["row"] (defScope s_row_order) := ⟨rfl, rfl, rfl, by decide +kernel, rfl, by decide +kernel, by decide +kernel⟩
def g_row_order : Sd := (sRet (gApp tupF (gCons (gLc [1] (gSeq (gVar 0)) (gTN 1) gTrue (gApp f_value_order (gCons (gVar 1) gNil))) gNil)))
def f_row_order : List D → Option D := runV 2 g_row_order
abbrev s_move_order : Stmt := topS 12
abbrev N_move_order : List Str := ["move"]
theorem sc_move_order : FnScope N_move_order ["move"] (defScope s_move_order) := ⟨rfl, rfl, rfl, by decide +kernel, rfl, by decide +kernel, by decide +kernel⟩
def g_move_order : Sd := (sRet (gApp mkTup (gCons (gBin ixD (gVar 0) (gC (.int 0))) (gCons (gApp f_row_order (gCons (gBin ixD (gVar 0) (gC (.int 1))) gNil)) gNil))))
def f_move_order : List D → Option D := runV 1 g_move_order
abbrev s_flow_of : Stmt := topS 13
abbrev N_flow_of : List Str := ["moves", "rows", "weights", "move", "place"]
theorem sc_flow_of : FnScope N_flow_of ["moves"] (defScope s_flow_of) := ⟨rfl, rfl, rfl, by decide +kernel, rfl, by decide +kernel, by decide +kernel⟩
def g_flow_of : Sd := (sSeq (sOwn 1 gNewD)
  (sSeq (sOwn 2 gNewD)
  (sSeq (sFor (gSeq (gVar 0)) (gTN 3)
  (sSeq (sSet 4 (gApp f_move_order (gCons (gVar 3) gNil)))
  (sSeq (sSetK 1 (gBin ixD (gVar 3) (gC (.int 1))) (gVar 4))
  (sSetK 2 (gBin addD (gGet 2 (gVar 4) (gC (.int 0))) (gBin ixD (gVar 3) (gC (.int 2)))) (gVar 4)))))
  (sRet (gLc [4] (gSeq (gSortN 2)) (gTN 4) (gTst (gBin neD (gIxK 2 (gVar 4)) (gC (.int 0)))) (gApp mkTup (gCons (gBin ixD (gVar 4) (gC (.int 0))) (gCons (gIxK 1 (gVar 4)) (gCons (gIxK 2 (gVar 4)) gNil)))))))))
def f_flow_of : List D → Option D := runV 5 g_flow_of
abbrev s_nothing : Stmt := topS 46
abbrev N_nothing : List Str := ["fields", "field"]
theorem sc_nothing : FnScope N_nothing ["fields"] (defScope s_nothing) := ⟨rfl, rfl, rfl, by decide +kernel, rfl, by decide +kernel, by decide +kernel⟩
def g_nothing : Sd := (sRet (gApp tupF (gCons (gLc [1] (gSeq (gVar 0)) (gTN 1) gTrue (gC .none)) gNil)))
def f_nothing : List D → Option D := runV 2 g_nothing
abbrev s_column_index : Stmt := topS 5
abbrev N_column_index : List Str := ["fields", "name", "index", "field"]
theorem sc_column_index : FnScope N_column_index ["fields", "name"] (defScope s_column_index) := ⟨rfl, rfl, rfl, by decide +kernel, rfl, by decide +kernel, by decide +kernel⟩
def g_column_index : Sd := (sSeq (sFor (gEnum (gCons (gVar 0) gNil)) (gTTup 2 (gTCons (gTN 2) (gTCons (gTN 3) gTNil)))
  (sIf (gTst (gBin eqD (gBin ixD (gVar 3) (gC (.int 0))) (gVar 1))) (sRet (gVar 2)) sNext))
  (sRet (gC .none)))
def f_column_index : List D → Option D := runV 4 g_column_index
abbrev s_key_of : Stmt := topS 22
abbrev N_key_of : List Str := ["row", "fields", "columns", "name"]
theorem sc_key_of : FnScope N_key_of ["row", "fields", "columns"] (defScope s_key_of) := ⟨rfl, rfl, rfl, by decide +kernel, rfl, by decide +kernel, by decide +kernel⟩
def g_key_of : Sd := (sRet (gApp tupF (gCons (gLc [3] (gSeq (gVar 2)) (gTN 3) gTrue (gBin ixD (gVar 0) (gApp f_column_index (gCons (gVar 1) (gCons (gVar 3) gNil))))) gNil)))
def f_key_of : List D → Option D := runV 4 g_key_of
abbrev s_partners : Stmt := topS 26
abbrev N_partners : List Str := ["items", "fields", "columns", "found", "item", "place"]
theorem sc_partners : FnScope N_partners ["items", "fields", "columns"] (defScope s_partners) := ⟨rfl, rfl, rfl, by decide +kernel, rfl, by decide +kernel, by decide +kernel⟩
def g_partners : Sd := (sSeq (sOwn 3 gNewD)
  (sSeq (sGrp 3 (gSeq (gVar 0)) (gTN 4) 5 (gApp f_row_order (gCons (gApp f_key_of (gCons (gBin ixD (gVar 4) (gUn negD (gC (.int 2)))) (gCons (gVar 1) (gCons (gVar 2) gNil)))) gNil)) (gVar 5) (gVar 4))
  (sRet (gVar 3))))
def f_partners : List D → Option D := runV 6 g_partners
abbrev s_place_of : Stmt := topS 27
abbrev N_place_of : List Str := ["item", "fields", "columns"]
theorem sc_place_of : FnScope N_place_of ["item", "fields", "columns"] (defScope s_place_of) := ⟨rfl, rfl, rfl, by decide +kernel, rfl, by decide +kernel, by decide +kernel⟩
def g_place_of : Sd := (sRet (gApp f_row_order (gCons (gApp f_key_of (gCons (gBin ixD (gVar 0) (gUn negD (gC (.int 2)))) (gCons (gVar 1) (gCons (gVar 2) gNil)))) gNil)))
def f_place_of : List D → Option D := runV 3 g_place_of
abbrev s_side_columns : Stmt := topS 25
abbrev N_side_columns : List Str := ["pairs", "side", "pair"]
theorem sc_side_columns : FnScope N_side_columns ["pairs", "side"] (defScope s_side_columns) := ⟨rfl, rfl, rfl, by decide +kernel, rfl, by decide +kernel, by decide +kernel⟩
def g_side_columns : Sd := (sRet (gLc [2] (gSeq (gVar 0)) (gTN 2) gTrue (gBin ixD (gVar 2) (gVar 1))))
def f_side_columns : List D → Option D := runV 3 g_side_columns
abbrev s_near_moves : Stmt := topS 47
abbrev N_near_moves : List Str := ["operator", "fields", "flows", "pairs", "low", "high", "others", "moves", "move", "met", "other"]
theorem sc_near_moves : FnScope N_near_moves ["operator", "fields", "flows"] (defScope s_near_moves) := ⟨rfl, rfl, rfl, by decide +kernel, rfl, by decide +kernel, by decide +kernel⟩
def g_near_moves : Sd := (sSeq (sPar3 3 4 5 (gCons (gBin ixD (gVar 0) (gC (.int 1))) (gCons (gBin ixD (gVar 0) (gC (.int 2))) (gCons (gBin ixD (gVar 0) (gC (.int 3))) gNil))))
  (sSeq (sSet 6 (gApp f_partners (gCons (gBin ixD (gVar 2) (gC (.int 1))) (gCons (gBin ixD (gVar 1) (gC (.int 1))) (gCons (gApp f_side_columns (gCons (gVar 3) (gCons (gC (.int 1)) gNil))) gNil)))))
  (sSeq (sOwn 7 (gApp mkLst gNil))
  (sSeq (sFor (gSeq (gBin ixD (gVar 2) (gC (.int 0)))) (gTN 8)
  (sSeq (sSet 9 (gC (.bool false)))
  (sSeq (sFor (gSeq (gGetD (gVar 6) (gApp f_place_of (gCons (gVar 8) (gCons (gBin ixD (gVar 1) (gC (.int 0))) (gCons (gApp f_side_columns (gCons (gVar 3) (gCons (gC (.int 0)) gNil))) gNil)))) (gApp mkLst gNil))) (gTN 10)
  (sIf (gTst (gChain leD leD (gBin addD (gBin ixD (gVar 8) (gC (.int 0))) (gVar 4)) (gBin ixD (gVar 10) (gC (.int 0))) (gBin addD (gBin ixD (gVar 8) (gC (.int 0))) (gVar 5)))) (sSeq (sSet 9 (gC (.bool true)))
  (sApp 7 (gApp mkTup (gCons (gApp maxF (gCons (gBin ixD (gVar 8) (gC (.int 0))) (gCons (gBin ixD (gVar 10) (gC (.int 0))) gNil))) (gCons (gBin addD (gBin ixD (gVar 8) (gC (.int 1))) (gBin ixD (gVar 10) (gC (.int 1)))) (gCons (gBin mulD (gBin ixD (gVar 8) (gC (.int 2))) (gBin ixD (gVar 10) (gC (.int 2)))) gNil)))))) sNext))
  (sIf (gAnd (gNot (gTru (gVar 9))) (gTst (gBin eqD (gBin ixD (gVar 0) (gC (.int 4))) (gC (.str "left"))))) (sApp 7 (gApp mkTup (gCons (gApp maxF (gCons (gBin ixD (gVar 8) (gC (.int 0))) (gCons (gBin addD (gBin ixD (gVar 8) (gC (.int 0))) (gVar 5)) gNil))) (gCons (gBin addD (gBin ixD (gVar 8) (gC (.int 1))) (gApp f_nothing (gCons (gBin ixD (gVar 1) (gC (.int 1))) gNil))) (gCons (gBin ixD (gVar 8) (gC (.int 2))) gNil))))) sNext))))
  (sRet (gFrz 7))))))
def f_near_moves : List D → Option D := runV 11 g_near_moves
abbrev s_define : Stmt := topS 55
abbrev N_define : List Str := ["operator", "fields", "flows", "word", "time", "table"]
theorem sc_define : FnScope N_define ["operator", "fields", "flows"] (defScope s_define) := ⟨rfl, rfl, rfl, by decide +kernel, rfl, by decide +kernel, by decide +kernel⟩
def g_define : Sd := (sSeq (sSet 3 (gBin ixD (gVar 0) (gC (.int 0))))
  (sSeq (sIf (gTst (gBin eqD (gVar 3) (gC (.str "filter")))) sFail sNext)
  (sSeq (sIf (gTst (gBin eqD (gVar 3) (gC (.str "map")))) sFail sNext)
  (sSeq (sIf (gTst (gBin eqD (gVar 3) (gC (.str "union")))) sFail sNext)
  (sSeq (sIf (gTst (gBin eqD (gVar 3) (gC (.str "window")))) sFail sNext)
  (sSeq (sIf (gTst (gBin eqD (gVar 3) (gC (.str "near")))) (sRet (gApp f_flow_of (gCons (gApp f_near_moves (gCons (gVar 0) (gCons (gVar 1) (gCons (gVar 2) gNil)))) gNil))) sNext)
  (sSeq (sIf (gTst (gBin eqD (gVar 3) (gC (.str "asof")))) sFail sNext)
  (sSeq (sIf (gTst (gBin eqD (gVar 3) (gC (.str "first")))) sFail sNext)
  (sSeq (sIf (gTst (gBin eqD (gVar 3) (gC (.str "join")))) sFail sNext)
  sFail)))))))))
def f_define : List D → Option D := runV 6 g_define
abbrev s_law : Stmt := topS 81
abbrev N_law : List Str := ["script", "k", "state", "fields", "first", "others", "second", "pairs", "low", "high", "keep", "operator", "told", "due"]
theorem sc_law : FnScope N_law ["script"] (defScope s_law) := ⟨rfl, rfl, rfl, by decide +kernel, rfl, by decide +kernel, by decide +kernel⟩
def g_law : Sd := (sSeq (sFor (gRng1 (gCons (gApp minF (gCons (gC (.int 7)) (gCons (gApp maxF (gCons (gC (.int 1)) (gCons (gBin fdivD (gApp lenF (gCons (gVar 0) gNil)) (gC (.int 2))) gNil))) gNil))) gNil)) (gTN 1)
  (sSeq (sOwn 2 (gApp f__law_start (gCons (gApp f__law_cell (gCons (gVar 0) (gCons (gBin mulD (gC (.int 2)) (gVar 1)) gNil))) (gCons (gVar 1) gNil))))
  (sSeq (sSet 3 (gCallIO 2 f__law_three (gCons (gApp mkLst (gCons (gC (.str "a")) (gCons (gC (.str "b")) (gCons (gC (.str "c")) gNil)))) gNil)))
  (sSeq (sSet 4 (gCallIO 2 f__law_events (gCons (gVar 3) (gCons (gCallIO 2 f__law_digit (gCons (gC (.int 8)) gNil)) gNil))))
  (sSeq (sOwn 2 (gApp f__law_start (gCons (gApp f__law_cell (gCons (gVar 0) (gCons (gBin addD (gBin mulD (gC (.int 2)) (gVar 1)) (gC (.int 1))) gNil))) (gCons (gVar 1) gNil))))
  (sSeq (sSet 5 (gCallIO 2 f__law_three (gCons (gApp mkLst (gCons (gC (.str "x")) (gCons (gC (.str "y")) (gCons (gC (.str "z")) gNil)))) gNil)))
  (sSeq (sSet 6 (gCallIO 2 f__law_events (gCons (gVar 5) (gCons (gCallIO 2 f__law_digit (gCons (gC (.int 8)) gNil)) gNil))))
  (sSeq (sSet 7 (gCallIO 2 f__law_pairs (gCons (gVar 3) (gCons (gVar 5) gNil))))
  (sSeq (sSet 8 (gBin subD (gCallIO 2 f__law_digit (gCons (gC (.int 9)) gNil)) (gC (.int 5))))
  (sSeq (sSet 9 (gBin addD (gVar 8) (gCallIO 2 f__law_digit (gCons (gC (.int 7)) gNil))))
  (sFor (gSeq (gApp mkLst (gCons (gC (.str "inner")) (gCons (gC (.str "left")) gNil)))) (gTN 10)
  (sSeq (sSet 11 (gApp mkTup (gCons (gC (.str "near")) (gCons (gVar 7) (gCons (gVar 8) (gCons (gVar 9) (gCons (gVar 10) gNil)))))))
  (sSeq (sSet 12 (gApp mkLst gNil))
  (sSeq (sSet 13 (gApp mkLst gNil))
  (sSeq (sIf (gTst (gBin gtD (gApp lenF (gCons (gVar 7) gNil)) (gC (.int 0)))) (sSeq (sSet 12 (gApp f_define (gCons (gVar 11) (gCons (gApp mkLst (gCons (gVar 3) (gCons (gVar 5) gNil))) (gCons (gApp mkLst (gCons (gVar 4) (gCons (gVar 6) gNil))) gNil)))))
  (sSet 13 (gApp f__law_made (gCons (gVar 11) (gCons (gVar 3) (gCons (gVar 5) (gCons (gVar 4) (gCons (gVar 6) gNil)))))))) sNext)
  (sIf (gNot (gTru (gApp f__law_same_flow (gCons (gVar 12) (gCons (gVar 13) gNil))))) (sRet (gC (.bool false))) sNext))))))))))))))))
  (sRet (gC (.bool true))))
def f_law : List D → Option D := runV 14 g_law
structure Txt (K : PySem.W.Frag) (mg : Str → Option Value) where
  a__law_cell : Addr
  d__law_cell : FuncData
  F__law_cell : Fun K "_law_cell" "_law_cell" s__law_cell a__law_cell d__law_cell
  m__law_cell : mg "_law_cell" = some (.ref a__law_cell)
  a__law_digit : Addr
  d__law_digit : FuncData
  F__law_digit : Fun K "_law_digit" "_law_digit" s__law_digit a__law_digit d__law_digit
  m__law_digit : mg "_law_digit" = some (.ref a__law_digit)
  a__law_rank : Addr
  d__law_rank : FuncData
  F__law_rank : Fun K "_law_rank" "_law_rank" s__law_rank a__law_rank d__law_rank
  m__law_rank : mg "_law_rank" = some (.ref a__law_rank)
  a__law_before : Addr
  d__law_before : FuncData
  F__law_before : Fun K "_law_before" "_law_before" s__law_before a__law_before d__law_before
  m__law_before : mg "_law_before" = some (.ref a__law_before)
  a__law_row_before : Addr
  d__law_row_before : FuncData
  F__law_row_before : Fun K "_law_row_before" "_law_row_before" s__law_row_before a__law_row_before d__law_row_before
  m__law_row_before : mg "_law_row_before" = some (.ref a__law_row_before)
  a__law_alike : Addr
  d__law_alike : FuncData
  F__law_alike : Fun K "_law_alike" "_law_alike" s__law_alike a__law_alike d__law_alike
  m__law_alike : mg "_law_alike" = some (.ref a__law_alike)
  a__law_add : Addr
  d__law_add : FuncData
  F__law_add : Fun K "_law_add" "_law_add" s__law_add a__law_add d__law_add
  m__law_add : mg "_law_add" = some (.ref a__law_add)
  a__law_move_before : Addr
  d__law_move_before : FuncData
  F__law_move_before : Fun K "_law_move_before" "_law_move_before" s__law_move_before a__law_move_before d__law_move_before
  m__law_move_before : mg "_law_move_before" = some (.ref a__law_move_before)
  a__law_flow : Addr
  d__law_flow : FuncData
  F__law_flow : Fun K "_law_flow" "_law_flow" s__law_flow a__law_flow d__law_flow
  m__law_flow : mg "_law_flow" = some (.ref a__law_flow)
  a__law_value : Addr
  d__law_value : FuncData
  F__law_value : Fun K "_law_value" "_law_value" s__law_value a__law_value d__law_value
  m__law_value : mg "_law_value" = some (.ref a__law_value)
  a__law_row : Addr
  d__law_row : FuncData
  F__law_row : Fun K "_law_row" "_law_row" s__law_row a__law_row d__law_row
  m__law_row : mg "_law_row" = some (.ref a__law_row)
  a__law_events : Addr
  d__law_events : FuncData
  F__law_events : Fun K "_law_events" "_law_events" s__law_events a__law_events d__law_events
  m__law_events : mg "_law_events" = some (.ref a__law_events)
  a__law_key : Addr
  d__law_key : FuncData
  F__law_key : Fun K "_law_key" "_law_key" s__law_key a__law_key d__law_key
  m__law_key : mg "_law_key" = some (.ref a__law_key)
  a__law_meet : Addr
  d__law_meet : FuncData
  F__law_meet : Fun K "_law_meet" "_law_meet" s__law_meet a__law_meet d__law_meet
  m__law_meet : mg "_law_meet" = some (.ref a__law_meet)
  a__law_made : Addr
  d__law_made : FuncData
  F__law_made : Fun K "_law_made" "_law_made" s__law_made a__law_made d__law_made
  m__law_made : mg "_law_made" = some (.ref a__law_made)
  a__law_pairs : Addr
  d__law_pairs : FuncData
  F__law_pairs : Fun K "_law_pairs" "_law_pairs" s__law_pairs a__law_pairs d__law_pairs
  m__law_pairs : mg "_law_pairs" = some (.ref a__law_pairs)
  a__law_same_flow : Addr
  d__law_same_flow : FuncData
  F__law_same_flow : Fun K "_law_same_flow" "_law_same_flow" s__law_same_flow a__law_same_flow d__law_same_flow
  m__law_same_flow : mg "_law_same_flow" = some (.ref a__law_same_flow)
  a__law_start : Addr
  d__law_start : FuncData
  F__law_start : Fun K "_law_start" "_law_start" s__law_start a__law_start d__law_start
  m__law_start : mg "_law_start" = some (.ref a__law_start)
  a__law_three : Addr
  d__law_three : FuncData
  F__law_three : Fun K "_law_three" "_law_three" s__law_three a__law_three d__law_three
  m__law_three : mg "_law_three" = some (.ref a__law_three)
  a_value_order : Addr
  d_value_order : FuncData
  F_value_order : Fun K "value_order" "value_order" s_value_order a_value_order d_value_order
  m_value_order : mg "value_order" = some (.ref a_value_order)
  a_row_order : Addr
  d_row_order : FuncData
  F_row_order : Fun K "row_order" "row_order" s_row_order a_row_order d_row_order
  m_row_order : mg "row_order" = some (.ref a_row_order)
  a_move_order : Addr
  d_move_order : FuncData
  F_move_order : Fun K "move_order" "move_order" s_move_order a_move_order d_move_order
  m_move_order : mg "move_order" = some (.ref a_move_order)
  a_flow_of : Addr
  d_flow_of : FuncData
  F_flow_of : Fun K "flow_of" "flow_of" s_flow_of a_flow_of d_flow_of
  m_flow_of : mg "flow_of" = some (.ref a_flow_of)
  a_nothing : Addr
  d_nothing : FuncData
  F_nothing : Fun K "nothing" "nothing" s_nothing a_nothing d_nothing
  m_nothing : mg "nothing" = some (.ref a_nothing)
  a_column_index : Addr
  d_column_index : FuncData
  F_column_index : Fun K "column_index" "column_index" s_column_index a_column_index d_column_index
  m_column_index : mg "column_index" = some (.ref a_column_index)
  a_key_of : Addr
  d_key_of : FuncData
  F_key_of : Fun K "key_of" "key_of" s_key_of a_key_of d_key_of
  m_key_of : mg "key_of" = some (.ref a_key_of)
  a_partners : Addr
  d_partners : FuncData
  F_partners : Fun K "partners" "partners" s_partners a_partners d_partners
  m_partners : mg "partners" = some (.ref a_partners)
  a_place_of : Addr
  d_place_of : FuncData
  F_place_of : Fun K "place_of" "place_of" s_place_of a_place_of d_place_of
  m_place_of : mg "place_of" = some (.ref a_place_of)
  a_side_columns : Addr
  d_side_columns : FuncData
  F_side_columns : Fun K "side_columns" "side_columns" s_side_columns a_side_columns d_side_columns
  m_side_columns : mg "side_columns" = some (.ref a_side_columns)
  a_near_moves : Addr
  d_near_moves : FuncData
  F_near_moves : Fun K "near_moves" "near_moves" s_near_moves a_near_moves d_near_moves
  m_near_moves : mg "near_moves" = some (.ref a_near_moves)
  a_define : Addr
  d_define : FuncData
  F_define : Fun K "define" "define" s_define a_define d_define
  m_define : mg "define" = some (.ref a_define)
  a_law : Addr
  d_law : FuncData
  F_law : Fun K "law" "law" s_law a_law d_law
  m_law : mg "law" = some (.ref a_law)
  z_abs : mg "abs" = none
  z_bool : mg "bool" = none
  z_enumerate : mg "enumerate" = none
  z_int : mg "int" = none
  z_isinstance : mg "isinstance" = none
  z_len : mg "len" = none
  z_list : mg "list" = none
  z_max : mg "max" = none
  z_min : mg "min" = none
  z_range : mg "range" = none
  z_reversed : mg "reversed" = none
  z_sorted : mg "sorted" = none
  z_sum : mg "sum" = none
  z_tuple : mg "tuple" = none
  c_MOST_NUMBER : ∃ t, mg "MOST_NUMBER" = some (.int 1000000000 t)
section
variable {P : Program} {w : World} {K : PySem.W.Frag} {mg : Str → Option Value} {base : Heap} (T : Txt K mg)
theorem bd__law_cell : Binds K T.d__law_cell ["script", "k"] [] := T.F__law_cell.binds (ps := ["script", "k"]) fun _ _ _ _ _ _ us hl => match us, hl with | [_, _], _ => rfl
theorem ok__law_cell : FnOk P w K mg base CX0 1 T.a__law_cell T.d__law_cell ["script", "k"] (spV ⟨K, P, w⟩ 2 f__law_cell) := fn_V (N := N__law_cell) (g := g__law_cell) T.F__law_cell sc__law_cell fun cdv A outer s H E hr =>
  (dss_cons (ds_if (dt_cmp (op_ltD hr.units) (dv 1) (de_callB call_lenD (by rfl) T.z_len bb_len (da_cs (dv 0) da_nl)) (nomark _)) (dss_one (ds_ret (de_ix ix_D (dv 0) (dv 1) (fun _ _ => rfl)))) dss_nil)
    (dss_one (ds_ret de_int)))
theorem bd__law_digit : Binds K T.d__law_digit ["state", "many"] [] := T.F__law_digit.binds (ps := ["state", "many"]) fun _ _ _ _ _ _ us hl => match us, hl with | [_, _], _ => rfl
theorem ok__law_digit : FnOk P w K mg base CX0 1 T.a__law_digit T.d__law_digit ["state", "many"] (spIO ⟨K, P, w⟩ 2 f__law_digit) := fn_IO (N := N__law_digit) (g := g__law_digit) T.F__law_digit sc__law_digit (by decide) fun cdv A outer s H E hr =>
  (dss_cons (ds_set (i := 2) sc__law_digit.nd rfl (.inl rfl) (de_bin op_modD (de_callTy call_intD (by rfl) T.z_int bt_int (da_cs (db_ix 0 de_int) da_nl)) (dv 1)))
    (dss_cons (db_setIx 0 (de_bin op_fdivD (db_ix 0 de_int) (dv 1)) de_int)
    (dss_one (ds_ret (dv 2)))))
theorem bd__law_rank : Binds K T.d__law_rank ["value"] [] := T.F__law_rank.binds (ps := ["value"]) fun _ _ _ _ _ _ us hl => match us, hl with | [_], _ => rfl
theorem ok__law_rank : FnOk P w K mg base CX0 1 T.a__law_rank T.d__law_rank ["value"] (spV ⟨K, P, w⟩ 1 f__law_rank) := fn_V (N := N__law_rank) (g := g__law_rank) T.F__law_rank sc__law_rank fun cdv A outer s H E hr =>
  (dss_cons (ds_if (dt_cmp op_isD (dv 0) de_non (nomark _)) (dss_one (ds_ret de_int)) dss_nil)
    (dss_cons (ds_if (dt_tru (de_isi T.z_isinstance (by rfl) (by rfl) T.z_bool bt_bool (dv 0))) (dss_one (ds_ret (de_bin op_addD de_int (de_callTy call_intD (by rfl) T.z_int bt_int (da_cs (dv 0) da_nl))))) dss_nil)
    (dss_cons (ds_if (dt_tru (de_isi T.z_isinstance (by rfl) (by rfl) T.z_int bt_int (dv 0))) (dss_one (ds_ret de_int)) dss_nil)
    (dss_one (ds_ret de_int)))))
theorem bd__law_before : Binds K T.d__law_before ["first", "second"] [] := T.F__law_before.binds (ps := ["first", "second"]) fun _ _ _ _ _ _ us hl => match us, hl with | [_, _], _ => rfl
theorem ok__law_before : FnOk P w K mg base CX0 2 T.a__law_before T.d__law_before ["first", "second"] (spV ⟨K, P, w⟩ 2 f__law_before) := fn_V (N := N__law_before) (g := g__law_before) T.F__law_before sc__law_before fun cdv A outer s H E hr =>
  (dss_cons (ds_if (dt_cmp (op_neD' hr.units) (de_call (ok__law_rank T) (hr.mono (by decide)) (by rfl) T.m__law_rank T.F__law_rank.kp (bd__law_rank T) (by rfl) (da_cs (dv 0) da_nl) (len_cons len_nil)) (de_call (ok__law_rank T) (hr.mono (by decide)) (by rfl) T.m__law_rank T.F__law_rank.kp (bd__law_rank T) (by rfl) (da_cs (dv 1) da_nl) (len_cons len_nil)) (nomark _)) (dss_one (ds_ret (de_cmp (op_ltD hr.units) (de_call (ok__law_rank T) (hr.mono (by decide)) (by rfl) T.m__law_rank T.F__law_rank.kp (bd__law_rank T) (by rfl) (da_cs (dv 0) da_nl) (len_cons len_nil)) (de_call (ok__law_rank T) (hr.mono (by decide)) (by rfl) T.m__law_rank T.F__law_rank.kp (bd__law_rank T) (by rfl) (da_cs (dv 1) da_nl) (len_cons len_nil)) (nomark _)))) dss_nil)
    (dss_cons (ds_if (dt_cmp (op_ltD hr.units) (de_call (ok__law_rank T) (hr.mono (by decide)) (by rfl) T.m__law_rank T.F__law_rank.kp (bd__law_rank T) (by rfl) (da_cs (dv 0) da_nl) (len_cons len_nil)) de_int (nomark _)) (dss_one (ds_ret de_bl)) dss_nil)
    (dss_one (ds_ret (de_cmp (op_ltD hr.units) (dv 0) (dv 1) (nomark _))))))
theorem bd__law_row_before : Binds K T.d__law_row_before ["first", "second"] [] := T.F__law_row_before.binds (ps := ["first", "second"]) fun _ _ _ _ _ _ us hl => match us, hl with | [_, _], _ => rfl
theorem ok__law_row_before : FnOk P w K mg base CX0 3 T.a__law_row_before T.d__law_row_before ["first", "second"] (spV ⟨K, P, w⟩ 2 f__law_row_before) := fn_V (N := N__law_row_before) (g := g__law_row_before) T.F__law_row_before sc__law_row_before fun cdv A outer s H E hr =>
  (dss_cons (ds_for PassesOwn.never rfl (di_rng1 (by rfl) T.z_range (da_cs (de_callB (call_minD rfl) (by rfl) T.z_min bb_min (da_cs (de_callB call_lenD (by rfl) T.z_len bb_len (da_cs (dv 0) da_nl)) (da_cs (de_callB call_lenD (by rfl) T.z_len bb_len (da_cs (dv 1) da_nl)) da_nl))) da_nl)) (dg_name (i := 2) sc__law_row_before.nd rfl (.inl rfl)) (dss_cons (ds_if (dt_tru (de_call (ok__law_before T) (hr.mono (by decide)) (by rfl) T.m__law_before T.F__law_before.kp (bd__law_before T) (by rfl) (da_cs (de_ix ix_D (dv 0) (dv 2) (fun _ _ => rfl)) (da_cs (de_ix ix_D (dv 1) (dv 2) (fun _ _ => rfl)) da_nl)) (len_cons (len_cons len_nil)))) (dss_one (ds_ret de_bl)) dss_nil)
    (dss_one (ds_if (dt_tru (de_call (ok__law_before T) (hr.mono (by decide)) (by rfl) T.m__law_before T.F__law_before.kp (bd__law_before T) (by rfl) (da_cs (de_ix ix_D (dv 1) (dv 2) (fun _ _ => rfl)) (da_cs (de_ix ix_D (dv 0) (dv 2) (fun _ _ => rfl)) da_nl)) (len_cons (len_cons len_nil)))) (dss_one (ds_ret de_bl)) dss_nil))))
    (dss_one (ds_ret (de_cmp (op_ltD hr.units) (de_callB call_lenD (by rfl) T.z_len bb_len (da_cs (dv 0) da_nl)) (de_callB call_lenD (by rfl) T.z_len bb_len (da_cs (dv 1) da_nl)) (nomark _)))))
theorem bd__law_alike : Binds K T.d__law_alike ["first", "second"] [] := T.F__law_alike.binds (ps := ["first", "second"]) fun _ _ _ _ _ _ us hl => match us, hl with | [_, _], _ => rfl
theorem ok__law_alike : FnOk P w K mg base CX0 4 T.a__law_alike T.d__law_alike ["first", "second"] (spV ⟨K, P, w⟩ 2 f__law_alike) := fn_V (N := N__law_alike) (g := g__law_alike) T.F__law_alike sc__law_alike fun cdv A outer s H E hr =>
  (dss_one (ds_ret (de_and (de_not (de_call (ok__law_row_before T) (hr.mono (by decide)) (by rfl) T.m__law_row_before T.F__law_row_before.kp (bd__law_row_before T) (by rfl) (da_cs (dv 0) (da_cs (dv 1) da_nl)) (len_cons (len_cons len_nil)))) (de_one (de_not (de_call (ok__law_row_before T) (hr.mono (by decide)) (by rfl) T.m__law_row_before T.F__law_row_before.kp (bd__law_row_before T) (by rfl) (da_cs (dv 1) (da_cs (dv 0) da_nl)) (len_cons (len_cons len_nil))))))))
theorem bd__law_add : Binds K T.d__law_add ["found", "time", "row", "weight"] [] := T.F__law_add.binds (ps := ["found", "time", "row", "weight"]) fun _ _ _ _ _ _ us hl => match us, hl with | [_, _, _, _], _ => rfl
theorem ok__law_add : FnOk P w K mg base CX0 5 T.a__law_add T.d__law_add ["found", "time", "row", "weight"] (spIO ⟨K, P, w⟩ 4 f__law_add) := fn_IO (N := N__law_add) (g := g__law_add) T.F__law_add sc__law_add (by decide) fun cdv A outer s H E hr =>
  (dss_cons (ds_for PassesOwn.never rfl (di_rng1 (by rfl) T.z_range (da_cs (db_call 0 call_lenD (by rfl) T.z_len bb_len) da_nl)) (dg_name (i := 4) sc__law_add.nd rfl (.inl rfl)) (dss_one (ds_if (dt_bool (dt_and (dt_cmp (op_eqD' hr.units) (de_ix ix_D (db_ix 0 (dv 4)) de_int (fun _ _ => rfl)) (dv 1) (nomark _)) (dt_and1 (dt_tru (de_call (ok__law_alike T) (hr.mono (by decide)) (by rfl) T.m__law_alike T.F__law_alike.kp (bd__law_alike T) (by rfl) (da_cs (de_ix ix_D (db_ix 0 (dv 4)) de_int (fun _ _ => rfl)) (da_cs (dv 2) da_nl)) (len_cons (len_cons len_nil))))))) (dss_cons (db_setIx 0 (de_tup (da_cs (dv 1) (da_cs (de_ix ix_D (db_ix 0 (dv 4)) de_int (fun _ _ => rfl)) (da_cs (de_bin op_addD (de_ix ix_D (db_ix 0 (dv 4)) de_int (fun _ _ => rfl)) (dv 3)) da_nl)))) (dv 4))
    (dss_one (ds_ret de_non))) dss_nil)))
    (dss_cons (ds_app 0 (pe_bm PySem.F.plainAttrs_list PySem.F.slot_list_append PySem.F.type_list_append mt_append (pv 0) (pa_cons (de_tup (da_cs (dv 1) (da_cs (dv 2) (da_cs (dv 3) da_nl)))) pa_nil)))
    (dss_one (ds_ret de_non))))
theorem bd__law_move_before : Binds K T.d__law_move_before ["first", "second"] [] := T.F__law_move_before.binds (ps := ["first", "second"]) fun _ _ _ _ _ _ us hl => match us, hl with | [_, _], _ => rfl
theorem ok__law_move_before : FnOk P w K mg base CX0 4 T.a__law_move_before T.d__law_move_before ["first", "second"] (spV ⟨K, P, w⟩ 2 f__law_move_before) := fn_V (N := N__law_move_before) (g := g__law_move_before) T.F__law_move_before sc__law_move_before fun cdv A outer s H E hr =>
  (dss_cons (ds_if (dt_cmp (op_neD' hr.units) (de_ix ix_D (dv 0) de_int (fun _ _ => rfl)) (de_ix ix_D (dv 1) de_int (fun _ _ => rfl)) (nomark _)) (dss_one (ds_ret (de_cmp (op_ltD hr.units) (de_ix ix_D (dv 0) de_int (fun _ _ => rfl)) (de_ix ix_D (dv 1) de_int (fun _ _ => rfl)) (nomark _)))) dss_nil)
    (dss_one (ds_ret (de_call (ok__law_row_before T) (hr.mono (by decide)) (by rfl) T.m__law_row_before T.F__law_row_before.kp (bd__law_row_before T) (by rfl) (da_cs (de_ix ix_D (dv 0) de_int (fun _ _ => rfl)) (da_cs (de_ix ix_D (dv 1) de_int (fun _ _ => rfl)) da_nl)) (len_cons (len_cons len_nil))))))
theorem bd__law_flow : Binds K T.d__law_flow ["moves"] [] := T.F__law_flow.binds (ps := ["moves"]) fun _ _ _ _ _ _ us hl => match us, hl with | [_], _ => rfl
theorem ok__law_flow : FnOk P w K mg base CX0 6 T.a__law_flow T.d__law_flow ["moves"] (spV ⟨K, P, w⟩ 1 f__law_flow) := fn_V (N := N__law_flow) (g := g__law_flow) T.F__law_flow sc__law_flow fun cdv A outer s H E hr =>
  (dss_cons (ds_own (i := 1) sc__law_flow.nd rfl (.inl rfl) (df_lst da_nl))
    (dss_cons (ds_for PassesOwn.never rfl (di_seq (dv 0)) (dg_name (i := 2) sc__law_flow.nd rfl (.inr rfl)) (dss_one (ds_expr (db_io 1 (ok__law_add T) (hr.mono (by decide)) (by rfl) T.m__law_add T.F__law_add.kp (bd__law_add T) (da_cs (de_ix ix_D (dv 2) de_int (fun _ _ => rfl)) (da_cs (de_ix ix_D (dv 2) de_int (fun _ _ => rfl)) (da_cs (de_ix ix_D (dv 2) de_int (fun _ _ => rfl)) da_nl))) (len_cons (len_cons (len_cons len_nil)))))))
    (dss_cons (ds_set (i := 3) sc__law_flow.nd rfl (.inl rfl) (df_de (df_lst da_nl)))
    (dss_cons (ds_for PassesOwn.never rfl (di_seq (dz 1)) (dg_name (i := 2) sc__law_flow.nd rfl (.inr rfl)) (dss_one (ds_if (dt_cmp (op_neD' hr.units) (de_ix ix_D (dv 2) de_int (fun _ _ => rfl)) de_int (nomark _)) (dss_cons (ds_set (i := 4) sc__law_flow.nd rfl (.inl rfl) (de_callB call_lenD (by rfl) T.z_len bb_len (da_cs (df_de (df_lc (pe_lc (own := [("other", 5)]) (by rfl) sc__law_flow.nd (di_seq (dv 3)) (blkOk_by (own := [("other", 5)]) (N := N__law_flow) (sc := defScope s__law_flow) (by decide +kernel)) (fun _ _ _ _ _ => (dg_name (i := 5) sc__law_flow.nd rfl (by first | exact .inl rfl | exact .inr rfl))) (fun _ _ _ _ _ => (dts_one (dt_tru (de_call (ok__law_move_before T) (hr.mono (by decide)) (by rfl) T.m__law_move_before T.F__law_move_before.kp (bd__law_move_before T) (by rfl) (da_cs (dv 5) (da_cs (dv 2) da_nl)) (len_cons (len_cons len_nil)))))) (fun _ _ _ _ _ => (dv 5))))) da_nl)))
    (dss_one (ds_set (i := 3) sc__law_flow.nd rfl (.inl rfl) (de_bin op_addD (de_bin op_addD (de_slice (dv 3) do_none (do_some (dv 4))) (df_de (df_lst (da_cs (dv 2) da_nl)))) (de_slice (dv 3) (do_some (dv 4)) do_none))))) dss_nil)))
    (dss_one (ds_ret (dv 3)))))))
theorem bd__law_value : Binds K T.d__law_value ["state", "kind"] [] := T.F__law_value.binds (ps := ["state", "kind"]) fun _ _ _ _ _ _ us hl => match us, hl with | [_, _], _ => rfl
theorem ok__law_value : FnOk P w K mg base CX0 2 T.a__law_value T.d__law_value ["state", "kind"] (spIO ⟨K, P, w⟩ 2 f__law_value) := fn_IO (N := N__law_value) (g := g__law_value) T.F__law_value sc__law_value (by decide) fun cdv A outer s H E hr =>
  (dss_cons (ds_if (dt_cmp (op_eqD' hr.units) (db_io 0 (ok__law_digit T) (hr.mono (by decide)) (by rfl) T.m__law_digit T.F__law_digit.kp (bd__law_digit T) (da_cs de_int da_nl) (len_cons len_nil)) de_int (nomark _)) (dss_one (ds_ret de_non)) dss_nil)
    (dss_cons (ds_if (dt_cmp (op_eqD' hr.units) (dv 1) de_str (nomark _)) (dss_one (ds_ret (de_cmp (op_eqD' hr.units) (db_io 0 (ok__law_digit T) (hr.mono (by decide)) (by rfl) T.m__law_digit T.F__law_digit.kp (bd__law_digit T) (da_cs de_int da_nl) (len_cons len_nil)) de_int (nomark _)))) dss_nil)
    (dss_cons (ds_if (dt_cmp (op_eqD' hr.units) (dv 1) de_str (nomark _)) (dss_one (ds_ret (de_ix ix_D (df_de (df_lst (da_cs de_int (da_cs de_int (da_cs de_int (da_cs (de_un un_negD de_int) (da_cs de_int (da_cs de_int (da_cs de_int (da_cs de_int da_nl)))))))))) (db_io 0 (ok__law_digit T) (hr.mono (by decide)) (by rfl) T.m__law_digit T.F__law_digit.kp (bd__law_digit T) (da_cs de_int da_nl) (len_cons len_nil)) (fun _ _ => rfl)))) dss_nil)
    (dss_one (ds_ret (de_ix ix_D (de_tup (da_cs de_str (da_cs de_str (da_cs de_str (da_cs de_str (da_cs de_str da_nl)))))) (db_io 0 (ok__law_digit T) (hr.mono (by decide)) (by rfl) T.m__law_digit T.F__law_digit.kp (bd__law_digit T) (da_cs de_int da_nl) (len_cons len_nil)) (fun _ _ => rfl)))))))
theorem bd__law_row : Binds K T.d__law_row ["state", "fields"] [] := T.F__law_row.binds (ps := ["state", "fields"]) fun _ _ _ _ _ _ us hl => match us, hl with | [_, _], _ => rfl
theorem ok__law_row : FnOk P w K mg base CX0 3 T.a__law_row T.d__law_row ["state", "fields"] (spIO ⟨K, P, w⟩ 2 f__law_row) := fn_IO (N := N__law_row) (g := g__law_row) T.F__law_row sc__law_row (by decide) fun cdv A outer s H E hr =>
  (dss_one (ds_ret (de_callTy call_tupD (by rfl) T.z_tuple bt_tuple (da_cs (df_de (df_lc (pe_lc (own := [("field", 2)]) (by rfl) sc__law_row.nd (di_seq (dv 1)) (blkOk_by (own := [("field", 2)]) (N := N__law_row) (sc := defScope s__law_row) (by decide +kernel)) (fun _ _ _ _ _ => (dg_name (i := 2) sc__law_row.nd rfl (by first | exact .inl rfl | exact .inr rfl))) (fun _ _ _ _ _ => dts_nil) (fun _ _ _ _ _ => (db_io 0 (ok__law_value T) (hr.mono (by decide)) (by rfl) T.m__law_value T.F__law_value.kp (bd__law_value T) (da_cs (de_ix ix_D (dv 2) de_int (fun _ _ => rfl)) da_nl) (len_cons len_nil)))))) da_nl))))
theorem bd__law_events : Binds K T.d__law_events ["state", "fields", "many"] [] := T.F__law_events.binds (ps := ["state", "fields", "many"]) fun _ _ _ _ _ _ us hl => match us, hl with | [_, _, _], _ => rfl
theorem ok__law_events : FnOk P w K mg base CX0 7 T.a__law_events T.d__law_events ["state", "fields", "many"] (spIO ⟨K, P, w⟩ 3 f__law_events) := fn_IO (N := N__law_events) (g := g__law_events) T.F__law_events sc__law_events (by decide) fun cdv A outer s H E hr =>
  (dss_cons (ds_own (i := 3) sc__law_events.nd rfl (.inl rfl) (df_lst da_nl))
    (dss_cons (ds_for PassesOwn.never rfl (di_rng1 (by rfl) T.z_range (da_cs (dv 2) da_nl)) (dg_name (i := 4) sc__law_events.nd rfl (.inl rfl)) (dss_one (ds_app 3 (pe_bm PySem.F.plainAttrs_list PySem.F.slot_list_append PySem.F.type_list_append mt_append (pv 3) (pa_cons (de_tup (da_cs (db_io 0 (ok__law_digit T) (hr.mono (by decide)) (by rfl) T.m__law_digit T.F__law_digit.kp (bd__law_digit T) (da_cs de_int da_nl) (len_cons len_nil)) (da_cs (db_io 0 (ok__law_row T) (hr.mono (by decide)) (by rfl) T.m__law_row T.F__law_row.kp (bd__law_row T) (da_cs (dv 1) da_nl) (len_cons len_nil)) (da_cs (de_ix ix_D (df_de (df_lst (da_cs de_int (da_cs de_int (da_cs de_int da_nl))))) (db_io 0 (ok__law_digit T) (hr.mono (by decide)) (by rfl) T.m__law_digit T.F__law_digit.kp (bd__law_digit T) (da_cs de_int da_nl) (len_cons len_nil)) (fun _ _ => rfl)) da_nl)))) pa_nil)))))
    (dss_one (ds_ret (de_call (ok__law_flow T) (hr.mono (by decide)) (by rfl) T.m__law_flow T.F__law_flow.kp (bd__law_flow T) (by rfl) (da_cs (dz 3) da_nl) (len_cons len_nil))))))
theorem bd__law_key : Binds K T.d__law_key ["row", "fields", "columns"] [] := T.F__law_key.binds (ps := ["row", "fields", "columns"]) fun _ _ _ _ _ _ us hl => match us, hl with | [_, _, _], _ => rfl
theorem ok__law_key : FnOk P w K mg base CX0 1 T.a__law_key T.d__law_key ["row", "fields", "columns"] (spV ⟨K, P, w⟩ 3 f__law_key) := fn_V (N := N__law_key) (g := g__law_key) T.F__law_key sc__law_key fun cdv A outer s H E hr =>
  (dss_cons (ds_set (i := 3) sc__law_key.nd rfl (.inr rfl) (df_de (df_lc (pe_lc (own := [("field", 4)]) (by rfl) sc__law_key.nd (di_seq (dv 1)) (blkOk_by (own := [("field", 4)]) (N := N__law_key) (sc := defScope s__law_key) (by decide +kernel)) (fun _ _ _ _ _ => (dg_name (i := 4) sc__law_key.nd rfl (by first | exact .inl rfl | exact .inr rfl))) (fun _ _ _ _ _ => dts_nil) (fun _ _ _ _ _ => (de_ix ix_D (dv 4) de_int (fun _ _ => rfl)))))))
    (dss_one (ds_ret (de_callTy call_tupD (by rfl) T.z_tuple bt_tuple (da_cs (df_de (df_lc (pe_lc (own := [("name", 5)]) (by rfl) sc__law_key.nd (di_seq (dv 2)) (blkOk_by (own := [("name", 5)]) (N := N__law_key) (sc := defScope s__law_key) (by decide +kernel)) (fun _ _ _ _ _ => (dg_name (i := 5) sc__law_key.nd rfl (by first | exact .inl rfl | exact .inr rfl))) (fun _ _ _ _ _ => dts_nil) (fun _ _ _ _ _ => (de_ix ix_D (dv 0) (de_ind (pe_bm PySem.F.plainAttrs_list PySem.F.slot_list_index PySem.F.type_list_index (mt_indexD (in65 hr)) (dv 3) (pa_cons (dv 5) pa_nil))) (fun _ _ => rfl)))))) da_nl)))))
theorem bd__law_meet : Binds K T.d__law_meet ["one", "two", "fields", "others", "pairs"] [] := T.F__law_meet.binds (ps := ["one", "two", "fields", "others", "pairs"]) fun _ _ _ _ _ _ us hl => match us, hl with | [_, _, _, _, _], _ => rfl
theorem ok__law_meet : FnOk P w K mg base CX0 5 T.a__law_meet T.d__law_meet ["one", "two", "fields", "others", "pairs"] (spV ⟨K, P, w⟩ 5 f__law_meet) := fn_V (N := N__law_meet) (g := g__law_meet) T.F__law_meet sc__law_meet fun cdv A outer s H E hr =>
  (dss_cons (ds_set (i := 5) sc__law_meet.nd rfl (.inl rfl) (de_call (ok__law_key T) (hr.mono (by decide)) (by rfl) T.m__law_key T.F__law_key.kp (bd__law_key T) (by rfl) (da_cs (dv 0) (da_cs (dv 2) (da_cs (df_de (df_lc (pe_lc (own := [("pair", 6)]) (by rfl) sc__law_meet.nd (di_seq (dv 4)) (blkOk_by (own := [("pair", 6)]) (N := N__law_meet) (sc := defScope s__law_meet) (by decide +kernel)) (fun _ _ _ _ _ => (dg_name (i := 6) sc__law_meet.nd rfl (by first | exact .inl rfl | exact .inr rfl))) (fun _ _ _ _ _ => dts_nil) (fun _ _ _ _ _ => (de_ix ix_D (dv 6) de_int (fun _ _ => rfl)))))) da_nl))) (len_cons (len_cons (len_cons len_nil)))))
    (dss_one (ds_ret (de_call (ok__law_alike T) (hr.mono (by decide)) (by rfl) T.m__law_alike T.F__law_alike.kp (bd__law_alike T) (by rfl) (da_cs (dv 5) (da_cs (de_call (ok__law_key T) (hr.mono (by decide)) (by rfl) T.m__law_key T.F__law_key.kp (bd__law_key T) (by rfl) (da_cs (dv 1) (da_cs (dv 3) (da_cs (df_de (df_lc (pe_lc (own := [("pair", 6)]) (by rfl) sc__law_meet.nd (di_seq (dv 4)) (blkOk_by (own := [("pair", 6)]) (N := N__law_meet) (sc := defScope s__law_meet) (by decide +kernel)) (fun _ _ _ _ _ => (dg_name (i := 6) sc__law_meet.nd rfl (by first | exact .inl rfl | exact .inr rfl))) (fun _ _ _ _ _ => dts_nil) (fun _ _ _ _ _ => (de_ix ix_D (dv 6) de_int (fun _ _ => rfl)))))) da_nl))) (len_cons (len_cons (len_cons len_nil)))) da_nl)) (len_cons (len_cons len_nil))))))
theorem bd__law_made : Binds K T.d__law_made ["operator", "fields", "others", "first", "second"] [] := T.F__law_made.binds (ps := ["operator", "fields", "others", "first", "second"]) fun _ _ _ _ _ _ us hl => match us, hl with | [_, _, _, _, _], _ => rfl
theorem ok__law_made : FnOk P w K mg base CX0 7 T.a__law_made T.d__law_made ["operator", "fields", "others", "first", "second"] (spV ⟨K, P, w⟩ 5 f__law_made) := fn_V (N := N__law_made) (g := g__law_made) T.F__law_made sc__law_made fun cdv A outer s H E hr =>
  (dss_cons (ds_set (i := 5) sc__law_made.nd rfl (.inl rfl) (df_de (df_lst da_nl)))
    (dss_cons (ds_for PassesOwn.never rfl (di_seq (dv 3)) (dg_name (i := 6) sc__law_made.nd rfl (.inl rfl)) (dss_cons (ds_own (i := 7) sc__law_made.nd rfl (.inl rfl) (df_lst da_nl))
    (dss_cons (ds_for PassesOwn.never rfl (di_seq (dv 4)) (dg_name (i := 8) sc__law_made.nd rfl (.inl rfl)) (dss_cons (ds_set (i := 9) sc__law_made.nd rfl (.inl rfl) (de_chain op_leD op_leD (de_bin op_addD (de_ix ix_D (dv 6) de_int (fun _ _ => rfl)) (de_ix ix_D (dv 0) de_int (fun _ _ => rfl))) (de_ix ix_D (dv 8) de_int (fun _ _ => rfl)) (de_bin op_addD (de_ix ix_D (dv 6) de_int (fun _ _ => rfl)) (de_ix ix_D (dv 0) de_int (fun _ _ => rfl)))))
    (dss_one (ds_if (dt_bool (dt_and (dt_tru (dv 9)) (dt_and1 (dt_tru (de_call (ok__law_meet T) (hr.mono (by decide)) (by rfl) T.m__law_meet T.F__law_meet.kp (bd__law_meet T) (by rfl) (da_cs (de_ix ix_D (dv 6) de_int (fun _ _ => rfl)) (da_cs (de_ix ix_D (dv 8) de_int (fun _ _ => rfl)) (da_cs (dv 1) (da_cs (dv 2) (da_cs (de_ix ix_D (dv 0) de_int (fun _ _ => rfl)) da_nl))))) (len_cons (len_cons (len_cons (len_cons (len_cons len_nil)))))))))) (dss_one (ds_app 7 (pe_bm PySem.F.plainAttrs_list PySem.F.slot_list_append PySem.F.type_list_append mt_append (pv 7) (pa_cons (de_tup (da_cs (de_callB (call_maxD rfl) (by rfl) T.z_max bb_max (da_cs (de_ix ix_D (dv 6) de_int (fun _ _ => rfl)) (da_cs (de_ix ix_D (dv 8) de_int (fun _ _ => rfl)) da_nl))) (da_cs (de_bin op_addD (de_ix ix_D (dv 6) de_int (fun _ _ => rfl)) (de_ix ix_D (dv 8) de_int (fun _ _ => rfl))) (da_cs (de_bin op_mulD (de_ix ix_D (dv 6) de_int (fun _ _ => rfl)) (de_ix ix_D (dv 8) de_int (fun _ _ => rfl))) da_nl)))) pa_nil)))) dss_nil))))
    (dss_cons (ds_if (dt_bool (dt_and (dbt_cmpL 7 (op_eqD' hr.units) (df_de (df_lst da_nl)) (nomark _)) (dt_and1 (dt_cmp (op_eqD' hr.units) (de_ix ix_D (dv 0) de_int (fun _ _ => rfl)) de_str (nomark _))))) (dss_one (ds_app 7 (pe_bm PySem.F.plainAttrs_list PySem.F.slot_list_append PySem.F.type_list_append mt_append (pv 7) (pa_cons (de_tup (da_cs (de_callB (call_maxD rfl) (by rfl) T.z_max bb_max (da_cs (de_ix ix_D (dv 6) de_int (fun _ _ => rfl)) (da_cs (de_bin op_addD (de_ix ix_D (dv 6) de_int (fun _ _ => rfl)) (de_ix ix_D (dv 0) de_int (fun _ _ => rfl))) da_nl))) (da_cs (de_bin op_addD (de_ix ix_D (dv 6) de_int (fun _ _ => rfl)) (de_callTy call_tupD (by rfl) T.z_tuple bt_tuple (da_cs (df_de (df_lc (pe_lc (own := [("field", 10)]) (by rfl) sc__law_made.nd (di_seq (dv 2)) (blkOk_by (own := [("field", 10)]) (N := N__law_made) (sc := defScope s__law_made) (by decide +kernel)) (fun _ _ _ _ _ => (dg_name (i := 10) sc__law_made.nd rfl (by first | exact .inl rfl | exact .inr rfl))) (fun _ _ _ _ _ => dts_nil) (fun _ _ _ _ _ => de_non)))) da_nl))) (da_cs (de_ix ix_D (dv 6) de_int (fun _ _ => rfl)) da_nl)))) pa_nil)))) dss_nil)
    (dss_one (ds_set (i := 5) sc__law_made.nd rfl (.inl rfl) (de_bin op_addD (dv 5) (dz 7))))))))
    (dss_one (ds_ret (de_call (ok__law_flow T) (hr.mono (by decide)) (by rfl) T.m__law_flow T.F__law_flow.kp (bd__law_flow T) (by rfl) (da_cs (dv 5) da_nl) (len_cons len_nil))))))
theorem bd__law_pairs : Binds K T.d__law_pairs ["state", "first", "second"] [] := T.F__law_pairs.binds (ps := ["state", "first", "second"]) fun _ _ _ _ _ _ us hl => match us, hl with | [_, _, _], _ => rfl
theorem ok__law_pairs : FnOk P w K mg base CX0 2 T.a__law_pairs T.d__law_pairs ["state", "first", "second"] (spIO ⟨K, P, w⟩ 3 f__law_pairs) := fn_IO (N := N__law_pairs) (g := g__law_pairs) T.F__law_pairs sc__law_pairs (by decide) fun cdv A outer s H E hr =>
  (dss_cons (ds_own (i := 3) sc__law_pairs.nd rfl (.inl rfl) (df_lst da_nl))
    (dss_cons (ds_for PassesOwn.never rfl (di_seq (dv 1)) (dg_name (i := 4) sc__law_pairs.nd rfl (.inr rfl)) (dss_cons (ds_set (i := 5) sc__law_pairs.nd rfl (.inr rfl) (df_de (df_lcW 3 (pe_lc (own := [("pair", 7)]) (by rfl) sc__law_pairs.nd (pi_seq (pv 3)) (blkOk_by (own := [("pair", 7)]) (N := N__law_pairs) (sc := defScope s__law_pairs) (by decide +kernel)) (fun _ _ _ _ _ => (dg_name (i := 7) sc__law_pairs.nd rfl (by first | exact .inl rfl | exact .inr rfl))) (fun _ _ _ _ _ => dts_nil) (fun _ _ _ _ _ => (de_ix ix_D (dv 7) de_int (fun _ _ => rfl)))))))
    (dss_cons (ds_lcO (i := 6) (ps_setLc (i := 6) (own := [("one", 8)]) (by rfl) sc__law_pairs.nd rfl rfl (sw_true rfl rfl rfl (by decide +kernel)) (di_seq (dv 2)) (blkOk_by (own := [("one", 8)]) (N := N__law_pairs) (sc := defScope s__law_pairs) (by decide +kernel)) (fun _ _ _ _ _ => (dg_name (i := 8) sc__law_pairs.nd rfl (by first | exact .inl rfl | exact .inr rfl))) (fun _ _ _ _ _ => (dts_one (dt_bool (dt_and (dt_cmp (op_eqD' hr.units) (de_ix ix_D (dv 8) de_int (fun _ _ => rfl)) (de_ix ix_D (dv 4) de_int (fun _ _ => rfl)) (nomark _)) (dt_and1 (dt_cmp (op_ninD' (in65 hr)) (de_ix ix_D (dv 8) de_int (fun _ _ => rfl)) (dv 5) (by rfl))))))) (fun _ _ _ _ _ => (de_ix ix_D (dv 8) de_int (fun _ _ => rfl)))))
    (dss_one (ds_if (dt_bool (dt_and (dt_cmp op_gtD (db_call 6 call_lenD (by rfl) T.z_len bb_len) de_int (nomark _)) (dt_and1 (dt_bool (dt_or (dbt_cmpL 3 (op_eqD' hr.units) (df_de (df_lst da_nl)) (nomark _)) (dt_or1 (dt_cmp (op_eqD' hr.units) (db_io 0 (ok__law_digit T) (hr.mono (by decide)) (by rfl) T.m__law_digit T.F__law_digit.kp (bd__law_digit T) (da_cs de_int da_nl) (len_cons len_nil)) de_int (nomark _)))))))) (dss_one (ds_app 3 (pe_bm PySem.F.plainAttrs_list PySem.F.slot_list_append PySem.F.type_list_append mt_append (pv 3) (pa_cons (de_tup (da_cs (de_ix ix_D (dv 4) de_int (fun _ _ => rfl)) (da_cs (db_ix 6 (db_io 0 (ok__law_digit T) (hr.mono (by decide)) (by rfl) T.m__law_digit T.F__law_digit.kp (bd__law_digit T) (da_cs (db_call 6 call_lenD (by rfl) T.z_len bb_len) da_nl) (len_cons len_nil))) da_nl))) pa_nil)))) dss_nil)))))
    (dss_one (ds_ret (de_callTy call_tupD (by rfl) T.z_tuple bt_tuple (da_cs (dz 3) da_nl))))))
theorem bd__law_same_flow : Binds K T.d__law_same_flow ["first", "second"] [] := T.F__law_same_flow.binds (ps := ["first", "second"]) fun _ _ _ _ _ _ us hl => match us, hl with | [_, _], _ => rfl
theorem ok__law_same_flow : FnOk P w K mg base CX0 5 T.a__law_same_flow T.d__law_same_flow ["first", "second"] (spV ⟨K, P, w⟩ 2 f__law_same_flow) := fn_V (N := N__law_same_flow) (g := g__law_same_flow) T.F__law_same_flow sc__law_same_flow fun cdv A outer s H E hr =>
  (dss_cons (ds_if (dt_bool (dt_or (dt_not (dt_tru (de_isi T.z_isinstance (by rfl) (by rfl) T.z_list bt_list (dv 0)))) (dt_or1 (dt_cmp (op_neD' hr.units) (de_callB call_lenD (by rfl) T.z_len bb_len (da_cs (dv 0) da_nl)) (de_callB call_lenD (by rfl) T.z_len bb_len (da_cs (dv 1) da_nl)) (nomark _))))) (dss_one (ds_ret de_bl)) dss_nil)
    (dss_cons (ds_for PassesOwn.never rfl (di_rng1 (by rfl) T.z_range (da_cs (de_callB call_lenD (by rfl) T.z_len bb_len (da_cs (dv 1) da_nl)) da_nl)) (dg_name (i := 2) sc__law_same_flow.nd rfl (.inl rfl)) (dss_one (ds_if (dt_bool (dt_or (dt_cmp (op_neD' hr.units) (de_ix ix_D (de_ix ix_D (dv 0) (dv 2) (fun _ _ => rfl)) de_int (fun _ _ => rfl)) (de_ix ix_D (de_ix ix_D (dv 1) (dv 2) (fun _ _ => rfl)) de_int (fun _ _ => rfl)) (nomark _)) (dt_or (dt_cmp (op_neD' hr.units) (de_ix ix_D (de_ix ix_D (dv 0) (dv 2) (fun _ _ => rfl)) de_int (fun _ _ => rfl)) (de_ix ix_D (de_ix ix_D (dv 1) (dv 2) (fun _ _ => rfl)) de_int (fun _ _ => rfl)) (nomark _)) (dt_or1 (dt_not (dt_tru (de_call (ok__law_alike T) (hr.mono (by decide)) (by rfl) T.m__law_alike T.F__law_alike.kp (bd__law_alike T) (by rfl) (da_cs (de_ix ix_D (de_ix ix_D (dv 0) (dv 2) (fun _ _ => rfl)) de_int (fun _ _ => rfl)) (da_cs (de_ix ix_D (de_ix ix_D (dv 1) (dv 2) (fun _ _ => rfl)) de_int (fun _ _ => rfl)) da_nl)) (len_cons (len_cons len_nil))))))))) (dss_one (ds_ret de_bl)) dss_nil)))
    (dss_one (ds_ret de_bl))))
theorem bd__law_start : Binds K T.d__law_start ["cell", "k"] [] := T.F__law_start.binds (ps := ["cell", "k"]) fun _ _ _ _ _ _ us hl => match us, hl with | [_, _], _ => rfl
theorem ok__law_start : FnOk P w K mg base CX0 1 T.a__law_start T.d__law_start ["cell", "k"] (spF ⟨K, P, w⟩ 2 f__law_start) := fn_F (N := N__law_start) (g := g__law_start) T.F__law_start sc__law_start fun cdv A outer s H E hr =>
  (dss_cons (ds_set (i := 2) sc__law_start.nd rfl (.inl rfl) de_int)
    (dss_cons (ds_if (dt_chain (op_ltD hr.units) (op_ltD hr.units) (de_un un_negD de_int) (dv 0) de_int) (dss_cons (ds_set (i := 3) sc__law_start.nd rfl (.inl rfl) (de_bin op_modD (de_callTy call_intD (by rfl) T.z_int bt_int (da_cs (de_bin op_addD (de_bin op_mulS (dv 0) de_int) (de_bin op_mulS (de_bin op_addD (dv 1) de_int) de_int)) da_nl)) (dv 2)))
    (dss_cons (ds_set (i := 4) sc__law_start.nd rfl (.inl rfl) de_int)
    (dss_cons (ds_for PassesOwn.never rfl (di_rng1 (by rfl) T.z_range (da_cs de_int da_nl)) (dg_name (i := 5) sc__law_start.nd rfl (.inl rfl)) (dss_cons (ds_set (i := 3) sc__law_start.nd rfl (.inl rfl) (de_bin op_modD (de_callTy call_intD (by rfl) T.z_int bt_int (da_cs (de_bin op_addD (de_bin op_addD (de_bin op_addD (de_bin op_mulD (dv 3) (dv 3)) (de_bin op_mulD de_int (dv 3))) (dv 1)) (dv 5)) da_nl)) (dv 2)))
    (dss_one (ds_set (i := 4) sc__law_start.nd rfl (.inl rfl) (de_bin op_addD (de_bin op_mulD (dv 4) (dv 2)) (dv 3))))))
    (dss_one (ds_rof (df_lst (da_cs (dv 4) da_nl))))))) dss_nil)
    (dss_one (ds_rof (df_lst (da_cs (de_callB call_absD (by rfl) T.z_abs bb_abs (da_cs (dv 0) da_nl)) da_nl))))))
theorem bd__law_three : Binds K T.d__law_three ["state", "names"] [] := T.F__law_three.binds (ps := ["state", "names"]) fun _ _ _ _ _ _ us hl => match us, hl with | [_, _], _ => rfl
theorem ok__law_three : FnOk P w K mg base CX0 2 T.a__law_three T.d__law_three ["state", "names"] (spIO ⟨K, P, w⟩ 2 f__law_three) := fn_IO (N := N__law_three) (g := g__law_three) T.F__law_three sc__law_three (by decide) fun cdv A outer s H E hr =>
  (dss_cons (ds_set (i := 2) sc__law_three.nd rfl (.inr rfl) (df_de (df_lst (da_cs de_str (da_cs de_str (da_cs de_str (da_cs de_str da_nl)))))))
    (dss_one (ds_ret (de_callTy call_tupD (by rfl) T.z_tuple bt_tuple (da_cs (df_de (df_lc (pe_lc (own := [("name", 3)]) (by rfl) sc__law_three.nd (di_seq (de_slice (dv 1) do_none (do_some (de_bin op_addD de_int (db_io 0 (ok__law_digit T) (hr.mono (by decide)) (by rfl) T.m__law_digit T.F__law_digit.kp (bd__law_digit T) (da_cs de_int da_nl) (len_cons len_nil)))))) (blkOk_by (own := [("name", 3)]) (N := N__law_three) (sc := defScope s__law_three) (by decide +kernel)) (fun _ _ _ _ _ => (dg_name (i := 3) sc__law_three.nd rfl (by first | exact .inl rfl | exact .inr rfl))) (fun _ _ _ _ _ => dts_nil) (fun _ _ _ _ _ => (de_tup (da_cs (dv 3) (da_cs (de_ix ix_D (dv 2) (db_io 0 (ok__law_digit T) (hr.mono (by decide)) (by rfl) T.m__law_digit T.F__law_digit.kp (bd__law_digit T) (da_cs de_int da_nl) (len_cons len_nil)) (fun _ _ => rfl)) da_nl))))))) da_nl)))))
theorem bd_value_order : Binds K T.d_value_order ["value"] [] := T.F_value_order.binds (ps := ["value"]) fun _ _ _ _ _ _ us hl => match us, hl with | [_], _ => rfl
theorem ok_value_order : FnOk P w K mg base CX0 1 T.a_value_order T.d_value_order ["value"] (spV ⟨K, P, w⟩ 1 f_value_order) := fn_V (N := N_value_order) (g := g_value_order) T.F_value_order sc_value_order fun cdv A outer s H E hr =>
  (dss_cons (ds_if (dt_cmp op_isD (dv 0) de_non (nomark _)) (dss_one (ds_ret (de_tup (da_cs de_int (da_cs de_int da_nl))))) dss_nil)
    (dss_cons (ds_if (dt_tru (de_isi T.z_isinstance (by rfl) (by rfl) T.z_bool bt_bool (dv 0))) (dss_one (ds_ret (de_tup (da_cs de_int (da_cs (de_callTy call_intD (by rfl) T.z_int bt_int (da_cs (dv 0) da_nl)) da_nl))))) dss_nil)
    (dss_cons (ds_if (dt_tru (de_isi T.z_isinstance (by rfl) (by rfl) T.z_int bt_int (dv 0))) (dss_one (ds_ret (de_tup (da_cs de_int (da_cs (dv 0) da_nl))))) dss_nil)
    (dss_one (ds_ret (de_tup (da_cs de_int (da_cs (dv 0) da_nl))))))))
theorem bd_row_order : Binds K T.d_row_order ["row"] [] := T.F_row_order.binds (ps := ["row"]) fun _ _ _ _ _ _ us hl => match us, hl with | [_], _ => rfl
theorem ok_row_order : FnOk P w K mg base CX0 2 T.a_row_order T.d_row_order ["row"] (spV ⟨K, P, w⟩ 1 f_row_order) := fn_V (N := N_row_order) (g := g_row_order) T.F_row_order sc_row_order fun cdv A outer s H E hr =>
  (dss_one (ds_ret (de_callTy call_tupD (by rfl) T.z_tuple bt_tuple (da_cs (df_de (df_lc (pe_lc (own := [("value", 1)]) (by rfl) sc_row_order.nd (di_seq (dv 0)) (blkOk_by (own := [("value", 1)]) (N := N_row_order) (sc := defScope s_row_order) (by decide +kernel)) (fun _ _ _ _ _ => (dg_name (i := 1) sc_row_order.nd rfl (by first | exact .inl rfl | exact .inr rfl))) (fun _ _ _ _ _ => dts_nil) (fun _ _ _ _ _ => (de_call (ok_value_order T) (hr.mono (by decide)) (by rfl) T.m_value_order T.F_value_order.kp (bd_value_order T) (by rfl) (da_cs (dv 1) da_nl) (len_cons len_nil)))))) da_nl))))
theorem bd_move_order : Binds K T.d_move_order ["move"] [] := T.F_move_order.binds (ps := ["move"]) fun _ _ _ _ _ _ us hl => match us, hl with | [_], _ => rfl
theorem ok_move_order : FnOk P w K mg base CX0 3 T.a_move_order T.d_move_order ["move"] (spV ⟨K, P, w⟩ 1 f_move_order) := fn_V (N := N_move_order) (g := g_move_order) T.F_move_order sc_move_order fun cdv A outer s H E hr =>
  (dss_one (ds_ret (de_tup (da_cs (de_ix ix_D (dv 0) de_int (fun _ _ => rfl)) (da_cs (de_call (ok_row_order T) (hr.mono (by decide)) (by rfl) T.m_row_order T.F_row_order.kp (bd_row_order T) (by rfl) (da_cs (de_ix ix_D (dv 0) de_int (fun _ _ => rfl)) da_nl) (len_cons len_nil)) da_nl)))))
theorem bd_flow_of : Binds K T.d_flow_of ["moves"] [] := T.F_flow_of.binds (ps := ["moves"]) fun _ _ _ _ _ _ us hl => match us, hl with | [_], _ => rfl
theorem ok_flow_of : FnOk P w K mg base CX0 4 T.a_flow_of T.d_flow_of ["moves"] (spV ⟨K, P, w⟩ 1 f_flow_of) := fn_V (N := N_flow_of) (g := g_flow_of) T.F_flow_of sc_flow_of fun cdv A outer s H E hr =>
  (dss_cons (ds_own (i := 1) sc_flow_of.nd rfl (.inr rfl) df_new)
    (dss_cons (ds_own (i := 2) sc_flow_of.nd rfl (.inr rfl) df_new)
    (dss_cons (ds_for PassesOwn.never rfl (di_seq (dv 0)) (dg_name (i := 3) sc_flow_of.nd rfl (.inl rfl)) (dss_cons (ds_set (i := 4) sc_flow_of.nd rfl (.inl rfl) (de_call (ok_move_order T) (hr.mono (by decide)) (by rfl) T.m_move_order T.F_move_order.kp (bd_move_order T) (by rfl) (da_cs (dv 3) da_nl) (len_cons len_nil)))
    (dss_cons (ds_setK 1 (in65 hr) (de_ix ix_D (dv 3) de_int (fun _ _ => rfl)) (dv 4))
    (dss_one (ds_setK 2 (in65 hr) (de_bin op_addD (de_get 2 (pe_mN 2 PySem.F.plainAttrs_dict PySem.F.slot_dict_get PySem.F.type_dict_get (mt_getN (in65 hr)) (by rfl) (by first | exact Or.inl rfl | exact Or.inr (Or.inl rfl) | exact Or.inr (Or.inr rfl)) (pa_cons (dv 4) (pa_cons de_int pa_nil)))) (de_ix ix_D (dv 3) de_int (fun _ _ => rfl))) (dv 4))))))
    (dss_one (ds_ret (df_de (df_lc (pe_lc (own := [("place", 4)]) (by rfl) sc_flow_of.nd (di_seq (df_de (df_sortN 2 rfl (in65 hr) (by rfl) T.z_sorted bb_sorted))) (blkOk_by (own := [("place", 4)]) (N := N_flow_of) (sc := defScope s_flow_of) (by decide +kernel)) (fun _ _ _ _ _ => (dg_name (i := 4) sc_flow_of.nd rfl (by first | exact .inl rfl | exact .inr rfl))) (fun _ _ _ _ _ => (dts_one (dt_cmp (op_neD' hr.units) (de_ixK 2 (in65 hr) (dv 4)) de_int (nomark _)))) (fun _ _ _ _ _ => (de_tup (da_cs (de_ix ix_D (dv 4) de_int (fun _ _ => rfl)) (da_cs (de_ixK 1 (in65 hr) (dv 4)) (da_cs (de_ixK 2 (in65 hr) (dv 4)) da_nl)))))))))))))
theorem bd_nothing : Binds K T.d_nothing ["fields"] [] := T.F_nothing.binds (ps := ["fields"]) fun _ _ _ _ _ _ us hl => match us, hl with | [_], _ => rfl
theorem ok_nothing : FnOk P w K mg base CX0 1 T.a_nothing T.d_nothing ["fields"] (spV ⟨K, P, w⟩ 1 f_nothing) := fn_V (N := N_nothing) (g := g_nothing) T.F_nothing sc_nothing fun cdv A outer s H E hr =>
  (dss_one (ds_ret (de_callTy call_tupD (by rfl) T.z_tuple bt_tuple (da_cs (df_de (df_lc (pe_lc (own := [("field", 1)]) (by rfl) sc_nothing.nd (di_seq (dv 0)) (blkOk_by (own := [("field", 1)]) (N := N_nothing) (sc := defScope s_nothing) (by decide +kernel)) (fun _ _ _ _ _ => (dg_name (i := 1) sc_nothing.nd rfl (by first | exact .inl rfl | exact .inr rfl))) (fun _ _ _ _ _ => dts_nil) (fun _ _ _ _ _ => de_non)))) da_nl))))
theorem bd_column_index : Binds K T.d_column_index ["fields", "name"] [] := T.F_column_index.binds (ps := ["fields", "name"]) fun _ _ _ _ _ _ us hl => match us, hl with | [_, _], _ => rfl
theorem ok_column_index : FnOk P w K mg base CX0 1 T.a_column_index T.d_column_index ["fields", "name"] (spV ⟨K, P, w⟩ 2 f_column_index) := fn_V (N := N_column_index) (g := g_column_index) T.F_column_index sc_column_index fun cdv A outer s H E hr =>
  (dss_cons (ds_for PassesOwn.never rfl (di_enum (by rfl) T.z_enumerate (da_cs (dv 0) da_nl)) (dg_tup rfl (dgs_cons (dg_name (i := 2) sc_column_index.nd rfl (.inl rfl)) (dgs_cons (dg_name (i := 3) sc_column_index.nd rfl (.inl rfl)) dgs_nil))) (dss_one (ds_if (dt_cmp (op_eqD' hr.units) (de_ix ix_D (dv 3) de_int (fun _ _ => rfl)) (dv 1) (nomark _)) (dss_one (ds_ret (dv 2))) dss_nil)))
    (dss_one (ds_ret de_non)))
theorem bd_key_of : Binds K T.d_key_of ["row", "fields", "columns"] [] := T.F_key_of.binds (ps := ["row", "fields", "columns"]) fun _ _ _ _ _ _ us hl => match us, hl with | [_, _, _], _ => rfl
theorem ok_key_of : FnOk P w K mg base CX0 2 T.a_key_of T.d_key_of ["row", "fields", "columns"] (spV ⟨K, P, w⟩ 3 f_key_of) := fn_V (N := N_key_of) (g := g_key_of) T.F_key_of sc_key_of fun cdv A outer s H E hr =>
  (dss_one (ds_ret (de_callTy call_tupD (by rfl) T.z_tuple bt_tuple (da_cs (df_de (df_lc (pe_lc (own := [("name", 3)]) (by rfl) sc_key_of.nd (di_seq (dv 2)) (blkOk_by (own := [("name", 3)]) (N := N_key_of) (sc := defScope s_key_of) (by decide +kernel)) (fun _ _ _ _ _ => (dg_name (i := 3) sc_key_of.nd rfl (by first | exact .inl rfl | exact .inr rfl))) (fun _ _ _ _ _ => dts_nil) (fun _ _ _ _ _ => (de_ix ix_D (dv 0) (de_call (ok_column_index T) (hr.mono (by decide)) (by rfl) T.m_column_index T.F_column_index.kp (bd_column_index T) (by rfl) (da_cs (dv 1) (da_cs (dv 3) da_nl)) (len_cons (len_cons len_nil))) (fun _ _ => rfl)))))) da_nl))))
theorem bd_partners : Binds K T.d_partners ["items", "fields", "columns"] [] := T.F_partners.binds (ps := ["items", "fields", "columns"]) fun _ _ _ _ _ _ us hl => match us, hl with | [_, _, _], _ => rfl
theorem ok_partners : FnOk P w K mg base CX0 3 T.a_partners T.d_partners ["items", "fields", "columns"] (spV ⟨K, P, w⟩ 3 f_partners) := fn_V (N := N_partners) (g := g_partners) T.F_partners sc_partners fun cdv A outer s H E hr =>
  (dss_cons (ds_own (i := 3) sc_partners.nd rfl (.inl rfl) df_new)
    (dss_cons (ds_grp 3 5 rfl PassesOwn.never (di_seq (dv 0)) (dg_name (i := 4) sc_partners.nd rfl (.inl rfl)) (pss_cons (ps_set (i := 5) sc_partners.nd rfl (.inl rfl) (de_call (ok_row_order T) (hr.mono (by decide)) (by rfl) T.m_row_order T.F_row_order.kp (bd_row_order T) (by rfl) (da_cs (de_call (ok_key_of T) (hr.mono (by decide)) (by rfl) T.m_key_of T.F_key_of.kp (bd_key_of T) (by rfl) (da_cs (de_ix ix_D (dv 4) (de_un un_negD de_int) (fun _ _ => rfl)) (da_cs (dv 1) (da_cs (dv 2) da_nl))) (len_cons (len_cons (len_cons len_nil)))) da_nl) (len_cons len_nil))) (pss_cons (ps_expr (pe_bm PySem.F.plainAttrs_list PySem.F.slot_list_append PySem.F.type_list_append mt_append (pe_mN 3 PySem.F.plainAttrs_dict PySem.F.slot_dict_setdefault PySem.F.type_dict_setdefault (mt_setdN (in65 hr)) (by rfl) (by first | exact Or.inl rfl | exact Or.inr (Or.inl rfl) | exact Or.inr (Or.inr rfl)) (pa_cons (dv 5) (pa_cons (df_lst da_nl) pa_nil))) (pa_cons (dv 4) pa_nil))) pss_nil)) (by decide) (by decide))
    (dss_one (ds_ret (dv 3)))))
theorem bd_place_of : Binds K T.d_place_of ["item", "fields", "columns"] [] := T.F_place_of.binds (ps := ["item", "fields", "columns"]) fun _ _ _ _ _ _ us hl => match us, hl with | [_, _, _], _ => rfl
theorem ok_place_of : FnOk P w K mg base CX0 3 T.a_place_of T.d_place_of ["item", "fields", "columns"] (spV ⟨K, P, w⟩ 3 f_place_of) := fn_V (N := N_place_of) (g := g_place_of) T.F_place_of sc_place_of fun cdv A outer s H E hr =>
  (dss_one (ds_ret (de_call (ok_row_order T) (hr.mono (by decide)) (by rfl) T.m_row_order T.F_row_order.kp (bd_row_order T) (by rfl) (da_cs (de_call (ok_key_of T) (hr.mono (by decide)) (by rfl) T.m_key_of T.F_key_of.kp (bd_key_of T) (by rfl) (da_cs (de_ix ix_D (dv 0) (de_un un_negD de_int) (fun _ _ => rfl)) (da_cs (dv 1) (da_cs (dv 2) da_nl))) (len_cons (len_cons (len_cons len_nil)))) da_nl) (len_cons len_nil))))
theorem bd_side_columns : Binds K T.d_side_columns ["pairs", "side"] [] := T.F_side_columns.binds (ps := ["pairs", "side"]) fun _ _ _ _ _ _ us hl => match us, hl with | [_, _], _ => rfl
theorem ok_side_columns : FnOk P w K mg base CX0 1 T.a_side_columns T.d_side_columns ["pairs", "side"] (spV ⟨K, P, w⟩ 2 f_side_columns) := fn_V (N := N_side_columns) (g := g_side_columns) T.F_side_columns sc_side_columns fun cdv A outer s H E hr =>
  (dss_one (ds_ret (df_de (df_lc (pe_lc (own := [("pair", 2)]) (by rfl) sc_side_columns.nd (di_seq (dv 0)) (blkOk_by (own := [("pair", 2)]) (N := N_side_columns) (sc := defScope s_side_columns) (by decide +kernel)) (fun _ _ _ _ _ => (dg_name (i := 2) sc_side_columns.nd rfl (by first | exact .inl rfl | exact .inr rfl))) (fun _ _ _ _ _ => dts_nil) (fun _ _ _ _ _ => (de_ix ix_D (dv 2) (dv 1) (fun _ _ => rfl))))))))
theorem bd_near_moves : Binds K T.d_near_moves ["operator", "fields", "flows"] [] := T.F_near_moves.binds (ps := ["operator", "fields", "flows"]) fun _ _ _ _ _ _ us hl => match us, hl with | [_, _, _], _ => rfl
theorem ok_near_moves : FnOk P w K mg base CX0 4 T.a_near_moves T.d_near_moves ["operator", "fields", "flows"] (spV ⟨K, P, w⟩ 3 f_near_moves) := fn_V (N := N_near_moves) (g := g_near_moves) T.F_near_moves sc_near_moves fun cdv A outer s H E hr =>
  (dss_cons (ds_par3 (i := 3) (j := 4) (l := 5) rfl sc_near_moves.nd (da_cs (de_ix ix_D (dv 0) de_int (fun _ _ => rfl)) (da_cs (de_ix ix_D (dv 0) de_int (fun _ _ => rfl)) (da_cs (de_ix ix_D (dv 0) de_int (fun _ _ => rfl)) da_nl))))
    (dss_cons (ds_set (i := 6) sc_near_moves.nd rfl (.inl rfl) (de_call (ok_partners T) (hr.mono (by decide)) (by rfl) T.m_partners T.F_partners.kp (bd_partners T) (by rfl) (da_cs (de_ix ix_D (dv 2) de_int (fun _ _ => rfl)) (da_cs (de_ix ix_D (dv 1) de_int (fun _ _ => rfl)) (da_cs (de_call (ok_side_columns T) (hr.mono (by decide)) (by rfl) T.m_side_columns T.F_side_columns.kp (bd_side_columns T) (by rfl) (da_cs (dv 3) (da_cs de_int da_nl)) (len_cons (len_cons len_nil))) da_nl))) (len_cons (len_cons (len_cons len_nil)))))
    (dss_cons (ds_own (i := 7) sc_near_moves.nd rfl (.inl rfl) (df_lst da_nl))
    (dss_cons (ds_for PassesOwn.never rfl (di_seq (de_ix ix_D (dv 2) de_int (fun _ _ => rfl))) (dg_name (i := 8) sc_near_moves.nd rfl (.inl rfl)) (dss_cons (ds_set (i := 9) sc_near_moves.nd rfl (.inl rfl) de_bl)
    (dss_cons (ds_for PassesOwn.never rfl (di_seq (de_getD (pe_mD PySem.F.plainAttrs_dict PySem.F.slot_dict_get PySem.F.type_dict_get (mt_getD (in65 hr)) (dv 6) (pa_cons (de_call (ok_place_of T) (hr.mono (by decide)) (by rfl) T.m_place_of T.F_place_of.kp (bd_place_of T) (by rfl) (da_cs (dv 8) (da_cs (de_ix ix_D (dv 1) de_int (fun _ _ => rfl)) (da_cs (de_call (ok_side_columns T) (hr.mono (by decide)) (by rfl) T.m_side_columns T.F_side_columns.kp (bd_side_columns T) (by rfl) (da_cs (dv 3) (da_cs de_int da_nl)) (len_cons (len_cons len_nil))) da_nl))) (len_cons (len_cons (len_cons len_nil)))) (pa_cons (df_de (df_lst da_nl)) pa_nil))))) (dg_name (i := 10) sc_near_moves.nd rfl (.inl rfl)) (dss_one (ds_if (dt_chain op_leD op_leD (de_bin op_addD (de_ix ix_D (dv 8) de_int (fun _ _ => rfl)) (dv 4)) (de_ix ix_D (dv 10) de_int (fun _ _ => rfl)) (de_bin op_addD (de_ix ix_D (dv 8) de_int (fun _ _ => rfl)) (dv 5))) (dss_cons (ds_set (i := 9) sc_near_moves.nd rfl (.inl rfl) de_bl)
    (dss_one (ds_app 7 (pe_bm PySem.F.plainAttrs_list PySem.F.slot_list_append PySem.F.type_list_append mt_append (pv 7) (pa_cons (de_tup (da_cs (de_callB (call_maxD rfl) (by rfl) T.z_max bb_max (da_cs (de_ix ix_D (dv 8) de_int (fun _ _ => rfl)) (da_cs (de_ix ix_D (dv 10) de_int (fun _ _ => rfl)) da_nl))) (da_cs (de_bin op_addD (de_ix ix_D (dv 8) de_int (fun _ _ => rfl)) (de_ix ix_D (dv 10) de_int (fun _ _ => rfl))) (da_cs (de_bin op_mulD (de_ix ix_D (dv 8) de_int (fun _ _ => rfl)) (de_ix ix_D (dv 10) de_int (fun _ _ => rfl))) da_nl)))) pa_nil))))) dss_nil)))
    (dss_one (ds_if (dt_bool (dt_and (dt_not (dt_tru (dv 9))) (dt_and1 (dt_cmp (op_eqD' hr.units) (de_ix ix_D (dv 0) de_int (fun _ _ => rfl)) de_str (nomark _))))) (dss_one (ds_app 7 (pe_bm PySem.F.plainAttrs_list PySem.F.slot_list_append PySem.F.type_list_append mt_append (pv 7) (pa_cons (de_tup (da_cs (de_callB (call_maxD rfl) (by rfl) T.z_max bb_max (da_cs (de_ix ix_D (dv 8) de_int (fun _ _ => rfl)) (da_cs (de_bin op_addD (de_ix ix_D (dv 8) de_int (fun _ _ => rfl)) (dv 5)) da_nl))) (da_cs (de_bin op_addD (de_ix ix_D (dv 8) de_int (fun _ _ => rfl)) (de_call (ok_nothing T) (hr.mono (by decide)) (by rfl) T.m_nothing T.F_nothing.kp (bd_nothing T) (by rfl) (da_cs (de_ix ix_D (dv 1) de_int (fun _ _ => rfl)) da_nl) (len_cons len_nil))) (da_cs (de_ix ix_D (dv 8) de_int (fun _ _ => rfl)) da_nl)))) pa_nil)))) dss_nil)))))
    (dss_one (ds_ret (dz 7)))))))
theorem bd_define : Binds K T.d_define ["operator", "fields", "flows"] [] := T.F_define.binds (ps := ["operator", "fields", "flows"]) fun _ _ _ _ _ _ us hl => match us, hl with | [_, _, _], _ => rfl
theorem ok_define : FnOk P w K mg base CX0 5 T.a_define T.d_define ["operator", "fields", "flows"] (spV ⟨K, P, w⟩ 3 f_define) := fn_V (N := N_define) (g := g_define) T.F_define sc_define fun cdv A outer s H E hr =>
  (dss_cons (ds_set (i := 3) sc_define.nd rfl (.inl rfl) (de_ix ix_D (dv 0) de_int (fun _ _ => rfl)))
    (dss_cons (ds_if (dt_cmp (op_eqD' hr.units) (dv 3) de_str (nomark _)) (dss_one ds_fail) dss_nil)
    (dss_cons (ds_if (dt_cmp (op_eqD' hr.units) (dv 3) de_str (nomark _)) (dss_one ds_fail) dss_nil)
    (dss_cons (ds_if (dt_cmp (op_eqD' hr.units) (dv 3) de_str (nomark _)) (dss_one ds_fail) dss_nil)
    (dss_cons (ds_if (dt_cmp (op_eqD' hr.units) (dv 3) de_str (nomark _)) (dss_one ds_fail) dss_nil)
    (dss_cons (ds_if (dt_cmp (op_eqD' hr.units) (dv 3) de_str (nomark _)) (dss_one (ds_ret (de_call (ok_flow_of T) (hr.mono (by decide)) (by rfl) T.m_flow_of T.F_flow_of.kp (bd_flow_of T) (by rfl) (da_cs (de_call (ok_near_moves T) (hr.mono (by decide)) (by rfl) T.m_near_moves T.F_near_moves.kp (bd_near_moves T) (by rfl) (da_cs (dv 0) (da_cs (dv 1) (da_cs (dv 2) da_nl))) (len_cons (len_cons (len_cons len_nil)))) da_nl) (len_cons len_nil)))) dss_nil)
    (dss_cons (ds_if (dt_cmp (op_eqD' hr.units) (dv 3) de_str (nomark _)) (dss_one ds_fail) dss_nil)
    (dss_cons (ds_if (dt_cmp (op_eqD' hr.units) (dv 3) de_str (nomark _)) (dss_one ds_fail) dss_nil)
    (dss_cons (ds_if (dt_cmp (op_eqD' hr.units) (dv 3) de_str (nomark _)) (dss_one ds_fail) dss_nil)
    (dss_one ds_fail))))))))))
theorem bd_law : Binds K T.d_law ["script"] [] := T.F_law.binds (ps := ["script"]) fun _ _ _ _ _ _ us hl => match us, hl with | [_], _ => rfl
theorem ok_law : FnOk P w K mg base CX0 8 T.a_law T.d_law ["script"] (spV ⟨K, P, w⟩ 1 f_law) := fn_V (N := N_law) (g := g_law) T.F_law sc_law fun cdv A outer s H E hr =>
  (dss_cons (ds_for PassesOwn.never rfl (di_rng1 (by rfl) T.z_range (da_cs (de_callB (call_minD rfl) (by rfl) T.z_min bb_min (da_cs de_int (da_cs (de_callB (call_maxD rfl) (by rfl) T.z_max bb_max (da_cs de_int (da_cs (de_bin op_fdivD (de_callB call_lenD (by rfl) T.z_len bb_len (da_cs (dv 0) da_nl)) de_int) da_nl))) da_nl))) da_nl)) (dg_name (i := 1) sc_law.nd rfl (.inl rfl)) (dss_cons (ds_own (i := 2) sc_law.nd rfl (.inl rfl) (df_call (ok__law_start T) (hr.mono (by decide)) (by rfl) T.m__law_start T.F__law_start.kp (bd__law_start T) (by rfl) (da_cs (de_call (ok__law_cell T) (hr.mono (by decide)) (by rfl) T.m__law_cell T.F__law_cell.kp (bd__law_cell T) (by rfl) (da_cs (dv 0) (da_cs (de_bin op_mulD de_int (dv 1)) da_nl)) (len_cons (len_cons len_nil))) (da_cs (dv 1) da_nl)) (len_cons (len_cons len_nil))))
    (dss_cons (ds_set (i := 3) sc_law.nd rfl (.inl rfl) (db_io 2 (ok__law_three T) (hr.mono (by decide)) (by rfl) T.m__law_three T.F__law_three.kp (bd__law_three T) (da_cs (df_de (df_lst (da_cs de_str (da_cs de_str (da_cs de_str da_nl))))) da_nl) (len_cons len_nil)))
    (dss_cons (ds_set (i := 4) sc_law.nd rfl (.inl rfl) (db_io 2 (ok__law_events T) (hr.mono (by decide)) (by rfl) T.m__law_events T.F__law_events.kp (bd__law_events T) (da_cs (dv 3) (da_cs (db_io 2 (ok__law_digit T) (hr.mono (by decide)) (by rfl) T.m__law_digit T.F__law_digit.kp (bd__law_digit T) (da_cs de_int da_nl) (len_cons len_nil)) da_nl)) (len_cons (len_cons len_nil))))
    (dss_cons (ds_own (i := 2) sc_law.nd rfl (.inl rfl) (df_call (ok__law_start T) (hr.mono (by decide)) (by rfl) T.m__law_start T.F__law_start.kp (bd__law_start T) (by rfl) (da_cs (de_call (ok__law_cell T) (hr.mono (by decide)) (by rfl) T.m__law_cell T.F__law_cell.kp (bd__law_cell T) (by rfl) (da_cs (dv 0) (da_cs (de_bin op_addD (de_bin op_mulD de_int (dv 1)) de_int) da_nl)) (len_cons (len_cons len_nil))) (da_cs (dv 1) da_nl)) (len_cons (len_cons len_nil))))
    (dss_cons (ds_set (i := 5) sc_law.nd rfl (.inl rfl) (db_io 2 (ok__law_three T) (hr.mono (by decide)) (by rfl) T.m__law_three T.F__law_three.kp (bd__law_three T) (da_cs (df_de (df_lst (da_cs de_str (da_cs de_str (da_cs de_str da_nl))))) da_nl) (len_cons len_nil)))
    (dss_cons (ds_set (i := 6) sc_law.nd rfl (.inl rfl) (db_io 2 (ok__law_events T) (hr.mono (by decide)) (by rfl) T.m__law_events T.F__law_events.kp (bd__law_events T) (da_cs (dv 5) (da_cs (db_io 2 (ok__law_digit T) (hr.mono (by decide)) (by rfl) T.m__law_digit T.F__law_digit.kp (bd__law_digit T) (da_cs de_int da_nl) (len_cons len_nil)) da_nl)) (len_cons (len_cons len_nil))))
    (dss_cons (ds_set (i := 7) sc_law.nd rfl (.inl rfl) (db_io 2 (ok__law_pairs T) (hr.mono (by decide)) (by rfl) T.m__law_pairs T.F__law_pairs.kp (bd__law_pairs T) (da_cs (dv 3) (da_cs (dv 5) da_nl)) (len_cons (len_cons len_nil))))
    (dss_cons (ds_set (i := 8) sc_law.nd rfl (.inl rfl) (de_bin op_subD (db_io 2 (ok__law_digit T) (hr.mono (by decide)) (by rfl) T.m__law_digit T.F__law_digit.kp (bd__law_digit T) (da_cs de_int da_nl) (len_cons len_nil)) de_int))
    (dss_cons (ds_set (i := 9) sc_law.nd rfl (.inl rfl) (de_bin op_addD (dv 8) (db_io 2 (ok__law_digit T) (hr.mono (by decide)) (by rfl) T.m__law_digit T.F__law_digit.kp (bd__law_digit T) (da_cs de_int da_nl) (len_cons len_nil))))
    (dss_one (ds_for PassesOwn.never rfl (di_seq (df_de (df_lst (da_cs de_str (da_cs de_str da_nl))))) (dg_name (i := 10) sc_law.nd rfl (.inl rfl)) (dss_cons (ds_set (i := 11) sc_law.nd rfl (.inl rfl) (de_tup (da_cs de_str (da_cs (dv 7) (da_cs (dv 8) (da_cs (dv 9) (da_cs (dv 10) da_nl)))))))
    (dss_cons (ds_set (i := 12) sc_law.nd rfl (.inl rfl) (df_de (df_lst da_nl)))
    (dss_cons (ds_set (i := 13) sc_law.nd rfl (.inl rfl) (df_de (df_lst da_nl)))
    (dss_cons (ds_if (dt_cmp op_gtD (de_callB call_lenD (by rfl) T.z_len bb_len (da_cs (dv 7) da_nl)) de_int (nomark _)) (dss_cons (ds_set (i := 12) sc_law.nd rfl (.inl rfl) (de_call (ok_define T) (hr.mono (by decide)) (by rfl) T.m_define T.F_define.kp (bd_define T) (by rfl) (da_cs (dv 11) (da_cs (df_de (df_lst (da_cs (dv 3) (da_cs (dv 5) da_nl)))) (da_cs (df_de (df_lst (da_cs (dv 4) (da_cs (dv 6) da_nl)))) da_nl))) (len_cons (len_cons (len_cons len_nil)))))
    (dss_one (ds_set (i := 13) sc_law.nd rfl (.inl rfl) (de_call (ok__law_made T) (hr.mono (by decide)) (by rfl) T.m__law_made T.F__law_made.kp (bd__law_made T) (by rfl) (da_cs (dv 11) (da_cs (dv 3) (da_cs (dv 5) (da_cs (dv 4) (da_cs (dv 6) da_nl))))) (len_cons (len_cons (len_cons (len_cons (len_cons len_nil))))))))) dss_nil)
    (dss_one (ds_if (dt_not (dt_tru (de_call (ok__law_same_flow T) (hr.mono (by decide)) (by rfl) T.m__law_same_flow T.F__law_same_flow.kp (bd__law_same_flow T) (by rfl) (da_cs (dv 12) (da_cs (dv 13) da_nl)) (len_cons (len_cons len_nil))))) (dss_one (ds_ret de_bl)) dss_nil))))))))))))))))))
    (dss_one (ds_ret de_bl)))
end
end Lw
set_option maxHeartbeats 4000000
namespace Lw
open PySem Dn Dm DnSo
theorem sp_digit (n m : Int) (h : 0 < m ∧ m < 1073741824) : f__law_digit (.list [.int n]) [.int m] = some (.int (n % m), .list [.int (n / m)]) := by
  rw [← wo_eq]
  unfold f__law_digit
  rw [wo_runIO]
  show Ws g__law_digit [some (.own true (.list [.int n])), some (.val (.int m)), none] _
  unfold g__law_digit
  have h' : 0 < m ∧ m < 18446744073709551616 := ⟨h.1, by omega⟩
  simp only [backE, wipeE, wo_some, wo_none, wm_c, wm_var, wm_frz, wm_bin, wm_un, wm_tst, wm_tru, wm_truB, wm_chain, wm_and, wm_or, wm_not, wm_andV, wm_orV, wm_notV, wm_ifE, wm_nil, wm_cons, wm_app, wm_noP, wm_part, wm_sl, wm_pk, wm_io, wm_ix, wm_inB, wm_true, wm_seq, wm_rng1, wm_rng2,
  then_nx, then_ret, then_rof, then_brk, then_cnt, ws_next, ws_brk, ws_cnt, ws_seq, ws_if, ws_ret, ws_rof, ws_drop, ws_set, ws_own, ws_asg, wo_TN, wo_TNil, wo_TCons, wo_TTup, ws_ap, ws_setIx, ws_for, for_nil, turn_nx, turn_cnt, turn_brk, turn_ret, turn_rof, wm_lc, end_ret, end_nx, end_rof, end_io, ownOf_own, valOf_val, frz_val, frz_own, cOwn_own, peek_val, peek_own, by_val, by_own, canSet_none, canSet_val, canSet_own, lstOf_list,
  List.getElem?_cons_zero, List.getElem?_cons_succ, List.set_cons_zero, List.set_cons_succ, List.length_cons, List.length_nil, wo_ite, wo_bind, ↓reduceIte, and_true, true_and, and_self, Bool.false_eq_true, Bool.not_true, Bool.not_false, decide_eq_true_eq, decide_true, decide_false, oneInt_int, twoInts_int,
  add_ii, add_ll, add_tt, add_ss, sub_ii, mul_ii, mulS_ii, mod_ii, fdiv_ii, neg_i, le_ii, gt_ii, ge_ii, eqT_ii, eqT_ss, eqT_bb, eqT_nn, ltT_ii, ltT_ss, wo_eqD, wo_neD, wo_ltD, wo_inD, wo_ninD, is_n, isnt_n, is_bb, isnt_bb, isN, bOf_b, iOf_i, tru_b, tru_n, tru_i, tru_l, tru_t, seq_l, seq_t, tup_l, tup_t, lst_l, lst_t, len_l, len_t, int_i, int_b, abs_i, max_ii, min_ii, ix_li, ix_ti, cut_l, cut_t, flat_i, flat_b, flat_s, ix0, ix1, ix2, mkTup, mkLst,
  ws_par3, three_c, ws_grp, empty_own, lOwnD_own, wm_lcW, wm_getD, wm_ind, ix3, ix4, ix_m2, ix_m1, ix_p2, ix_p1, wm_newD, ws_setK, wm_get, wm_ixK, wm_sortN, ws_ext, dOwn_own, lOwn_own, lsD_list, step_nx, step_cnt, step_brk, step_ret, step_rof, wm_reve, rev_l, rev_t, wm_opBL, repr_l, sort_l, sum_l, wm_enum, enum_l, enum_t, enumL_nil, wm_dic, wm_kvn, wm_kvc, seq_s, mulT_si, len_s, ord_c, str_i, ty_d, k_lb, k_li, k_ls, k_tb, k_ti, k_ts, k_db, k_di, k_ds, k_lt, k_tl,
  isi_1, tyOk_n, tyOk_b, tyOk_i, tyOk_s, tyOk_l, tyOk_t, ty_n, ty_b, ty_i, ty_s, ty_l, ty_t, k_nb, k_bb, k_ib, k_sb, k_ni, k_bi, k_ii, k_si, k_ns, k_bs, k_is, k_ss, k_ll, k_tt,
  Int.reduceNeg, Int.reducePow, Int.reduceLT, Int.reduceLE, Int.reduceAdd, Int.reduceSub, Int.reduceMul, Int.reduceToNat, Nat.reduceAdd, Nat.reduceLeDiff, Nat.reduceEqDiff, Int.reduceEq, reduceCtorEq]
  simp only [wo_some, h', h'.1, ↓reduceIte, and_self]
  simp [ixS, wo_some]
theorem wo_valueT {n : Int} {k : Str} {Q : D × D → Prop} (q : ∀ d n', gv d → (kd k → tyB k d = true) → isV d = true → Q (d, .list [.int n'])) : Wo (f__law_value (.list [.int n]) [.str k]) Q := by
  unfold f__law_value
  rw [wo_runIO]
  show Ws g__law_value [some (.own true (.list [.int n])), some (.val (.str k))] _
  unfold g__law_value
  simp only [backE, wipeE, wo_some, wo_none, wm_c, wm_var, wm_frz, wm_bin, wm_un, wm_tst, wm_tru, wm_truB, wm_chain, wm_and, wm_or, wm_not, wm_andV, wm_orV, wm_notV, wm_ifE, wm_nil, wm_cons, wm_app, wm_noP, wm_part, wm_sl, wm_pk, wm_io, wm_ix, wm_inB, wm_true, wm_seq, wm_rng1, wm_rng2,
  then_nx, then_ret, then_rof, then_brk, then_cnt, ws_next, ws_brk, ws_cnt, ws_seq, ws_if, ws_ret, ws_rof, ws_drop, ws_set, ws_own, ws_asg, wo_TN, wo_TNil, wo_TCons, wo_TTup, ws_ap, ws_setIx, ws_for, for_nil, turn_nx, turn_cnt, turn_brk, turn_ret, turn_rof, wm_lc, end_ret, end_nx, end_rof, end_io, ownOf_own, valOf_val, frz_val, frz_own, cOwn_own, peek_val, peek_own, by_val, by_own, canSet_none, canSet_val, canSet_own, lstOf_list,
  List.getElem?_cons_zero, List.getElem?_cons_succ, List.set_cons_zero, List.set_cons_succ, List.length_cons, List.length_nil, wo_ite, wo_bind, ↓reduceIte, and_true, true_and, and_self, Bool.false_eq_true, Bool.not_true, Bool.not_false, decide_eq_true_eq, decide_true, decide_false, oneInt_int, twoInts_int,
  add_ii, add_ll, add_tt, add_ss, sub_ii, mul_ii, mulS_ii, mod_ii, fdiv_ii, neg_i, le_ii, gt_ii, ge_ii, eqT_ii, eqT_ss, eqT_bb, eqT_nn, ltT_ii, ltT_ss, wo_eqD, wo_neD, wo_ltD, wo_inD, wo_ninD, is_n, isnt_n, is_bb, isnt_bb, isN, bOf_b, iOf_i, tru_b, tru_n, tru_i, tru_l, tru_t, seq_l, seq_t, tup_l, tup_t, lst_l, lst_t, len_l, len_t, int_i, int_b, abs_i, max_ii, min_ii, ix_li, ix_ti, cut_l, cut_t, flat_i, flat_b, flat_s, ix0, ix1, ix2, mkTup, mkLst,
  ws_par3, three_c, ws_grp, empty_own, lOwnD_own, wm_lcW, wm_getD, wm_ind, ix3, ix4, ix_m2, ix_m1, ix_p2, ix_p1, wm_newD, ws_setK, wm_get, wm_ixK, wm_sortN, ws_ext, dOwn_own, lOwn_own, lsD_list, step_nx, step_cnt, step_brk, step_ret, step_rof, wm_reve, rev_l, rev_t, wm_opBL, repr_l, sort_l, sum_l, wm_enum, enum_l, enum_t, enumL_nil, wm_dic, wm_kvn, wm_kvc, seq_s, mulT_si, len_s, ord_c, str_i, ty_d, k_lb, k_li, k_ls, k_tb, k_ti, k_ts, k_db, k_di, k_ds, k_lt, k_tl,
  isi_1, tyOk_n, tyOk_b, tyOk_i, tyOk_s, tyOk_l, tyOk_t, ty_n, ty_b, ty_i, ty_s, ty_l, ty_t, k_nb, k_bb, k_ib, k_sb, k_ni, k_bi, k_ii, k_si, k_ns, k_bs, k_is, k_ss, k_ll, k_tt,
  Int.reduceNeg, Int.reducePow, Int.reduceLT, Int.reduceLE, Int.reduceAdd, Int.reduceSub, Int.reduceMul, Int.reduceToNat, Nat.reduceAdd, Nat.reduceLeDiff, Nat.reduceEqDiff, Int.reduceEq, reduceCtorEq, sp_digit]
  split
  · exact q _ _ gv_none (fun _ => rfl) rfl
  split
  · rename_i hk
    exact q _ _ (gv_bool _) (fun _ => decide_eq_true hk) rfl
  rename_i hk1
  split
  · rename_i hk
    refine wo_ix (by omega) (by simp only [List.length_cons, List.length_nil]; omega) ?_
    intro x hx
    simp only [List.mem_cons, List.not_mem_nil, or_false] at hx
    rcases hx with rfl | rfl | rfl | rfl | rfl | rfl | rfl | rfl <;> exact q _ _ (gv_int _) (fun _ => decide_eq_true hk) (by decide)
  · rename_i hk2
    refine wo_ix (by omega) (by simp only [List.length_cons, List.length_nil]; omega) ?_
    intro x hx
    simp only [List.mem_cons, List.not_mem_nil, or_false] at hx
    have ht : kd k → k = "text" := fun h => (h.resolve_left hk1).resolve_left hk2
    rcases hx with rfl | rfl | rfl | rfl | rfl <;> exact q _ _ ⟨rfl, by decide +kernel⟩ (fun h => decide_eq_true (ht h)) (by decide +kernel)
theorem wo_value {n : Int} {k : Str} {Q : D × D → Prop} (q : ∀ d n', gv d → Q (d, .list [.int n'])) : Wo (f__law_value (.list [.int n]) [.str k]) Q := wo_valueT fun d n' h _ _ => q d n' h
theorem wo_start {c k : Int} {Q : D → Prop} (q : ∀ n : Int, Q (.list [.int n])) : Wo (f__law_start [.int c, .int k]) Q := by
  unfold f__law_start
  rw [wo_runF]
  show Ws g__law_start [some (.val (.int c)), some (.val (.int k)), none, none, none, none] _
  unfold g__law_start
  simp only [backE, wipeE, wo_some, wo_none, wm_c, wm_var, wm_frz, wm_bin, wm_un, wm_tst, wm_tru, wm_truB, wm_chain, wm_and, wm_or, wm_not, wm_andV, wm_orV, wm_notV, wm_ifE, wm_nil, wm_cons, wm_app, wm_noP, wm_part, wm_sl, wm_pk, wm_io, wm_ix, wm_inB, wm_true, wm_seq, wm_rng1, wm_rng2,
  then_nx, then_ret, then_rof, then_brk, then_cnt, ws_next, ws_brk, ws_cnt, ws_seq, ws_if, ws_ret, ws_rof, ws_drop, ws_set, ws_own, ws_asg, wo_TN, wo_TNil, wo_TCons, wo_TTup, ws_ap, ws_setIx, ws_for, for_nil, turn_nx, turn_cnt, turn_brk, turn_ret, turn_rof, wm_lc, end_ret, end_nx, end_rof, end_io, ownOf_own, valOf_val, frz_val, frz_own, cOwn_own, peek_val, peek_own, by_val, by_own, canSet_none, canSet_val, canSet_own, lstOf_list,
  List.getElem?_cons_zero, List.getElem?_cons_succ, List.set_cons_zero, List.set_cons_succ, List.length_cons, List.length_nil, wo_ite, wo_bind, ↓reduceIte, and_true, true_and, and_self, Bool.false_eq_true, Bool.not_true, Bool.not_false, decide_eq_true_eq, decide_true, decide_false, oneInt_int, twoInts_int,
  add_ii, add_ll, add_tt, add_ss, sub_ii, mul_ii, mulS_ii, mod_ii, fdiv_ii, neg_i, le_ii, gt_ii, ge_ii, eqT_ii, eqT_ss, eqT_bb, eqT_nn, ltT_ii, ltT_ss, wo_eqD, wo_neD, wo_ltD, wo_inD, wo_ninD, is_n, isnt_n, is_bb, isnt_bb, isN, bOf_b, iOf_i, tru_b, tru_n, tru_i, tru_l, tru_t, seq_l, seq_t, tup_l, tup_t, lst_l, lst_t, len_l, len_t, int_i, int_b, abs_i, max_ii, min_ii, ix_li, ix_ti, cut_l, cut_t, flat_i, flat_b, flat_s, ix0, ix1, ix2, mkTup, mkLst,
  ws_par3, three_c, ws_grp, empty_own, lOwnD_own, wm_lcW, wm_getD, wm_ind, ix3, ix4, ix_m2, ix_m1, ix_p2, ix_p1, wm_newD, ws_setK, wm_get, wm_ixK, wm_sortN, ws_ext, dOwn_own, lOwn_own, lsD_list, step_nx, step_cnt, step_brk, step_ret, step_rof, wm_reve, rev_l, rev_t, wm_opBL, repr_l, sort_l, sum_l, wm_enum, enum_l, enum_t, enumL_nil, wm_dic, wm_kvn, wm_kvc, seq_s, mulT_si, len_s, ord_c, str_i, ty_d, k_lb, k_li, k_ls, k_tb, k_ti, k_ts, k_db, k_di, k_ds, k_lt, k_tl,
  isi_1, tyOk_n, tyOk_b, tyOk_i, tyOk_s, tyOk_l, tyOk_t, ty_n, ty_b, ty_i, ty_s, ty_l, ty_t, k_nb, k_bb, k_ib, k_sb, k_ni, k_bi, k_ii, k_si, k_ns, k_bs, k_is, k_ss, k_ll, k_tt,
  Int.reduceNeg, Int.reducePow, Int.reduceLT, Int.reduceLE, Int.reduceAdd, Int.reduceSub, Int.reduceMul, Int.reduceToNat, Nat.reduceAdd, Nat.reduceLeDiff, Nat.reduceEqDiff, Int.reduceEq, reduceCtorEq, sp_digit]
  split
  · split
    · rw [if_pos (by decide)]
      have e4 : rngL 0 4 = [.int 0, .int 1, .int 2, .int 3] := rfl
      rw [e4]
      refine ws_forall (fun p ρ => ∃ (m num : Int) (o : Option Cell), canSet (some o) = some () ∧ 0 ≤ m ∧ m < 2 ^ 89 ∧ 0 ≤ num ∧ num < 2 ^ (90 * p.length + 1) ∧ ρ = [some (.val (.int c)), some (.val (.int k)), some (.val (.int 618970019642690137449562111)), some (.val (.int m)), some (.val (.int num)), o]) ⟨_, 0, none, rfl, Int.emod_nonneg _ (by decide), Int.lt_of_lt_of_le (Int.emod_lt_of_pos _ (by decide)) (by decide), by decide, by decide, rfl⟩ ?_ ?_
      · rintro p d r ρ e ⟨m, num, o, ho, hm0, hm1, hn0, hn1, rfl⟩
        have hp : p.length ≤ 3 := by
          have := congrArg List.length e
          simp at this
          omega
        obtain ⟨t, rfl⟩ : ∃ t : Int, d = .int t := by
          have hd : d ∈ ([.int 0, .int 1, .int 2, .int 3] : List D) := by rw [e]; simp
          simp only [List.mem_cons, List.not_mem_nil, or_false] at hd
          rcases hd with rfl | rfl | rfl | rfl <;> exact ⟨_, rfl⟩
        have hmn := nab hm0 hm1
        have hnn := nab hn0 hn1
        have g1 : m.natAbs.log2 + m.natAbs.log2 < 1000000 := log_ok _ _ hmn hmn (by omega)
        have g2 : (7 : Int).natAbs.log2 + m.natAbs.log2 < 1000000 := log_ok 4 _ (by decide) hmn (by omega)
        have g3 : num.natAbs.log2 + (618970019642690137449562111 : Int).natAbs.log2 < 1000000 := log_ok _ 90 hnn (by decide) (by omega)
        simp only [backE, wipeE, wo_some, wo_none, wm_c, wm_var, wm_frz, wm_bin, wm_un, wm_tst, wm_tru, wm_truB, wm_chain, wm_and, wm_or, wm_not, wm_andV, wm_orV, wm_notV, wm_ifE, wm_nil, wm_cons, wm_app, wm_noP, wm_part, wm_sl, wm_pk, wm_io, wm_ix, wm_inB, wm_true, wm_seq, wm_rng1, wm_rng2,
  then_nx, then_ret, then_rof, then_brk, then_cnt, ws_next, ws_brk, ws_cnt, ws_seq, ws_if, ws_ret, ws_rof, ws_drop, ws_set, ws_own, ws_asg, wo_TN, wo_TNil, wo_TCons, wo_TTup, ws_ap, ws_setIx, ws_for, for_nil, turn_nx, turn_cnt, turn_brk, turn_ret, turn_rof, wm_lc, end_ret, end_nx, end_rof, end_io, ownOf_own, valOf_val, frz_val, frz_own, cOwn_own, peek_val, peek_own, by_val, by_own, canSet_none, canSet_val, canSet_own, lstOf_list,
  List.getElem?_cons_zero, List.getElem?_cons_succ, List.set_cons_zero, List.set_cons_succ, List.length_cons, List.length_nil, wo_ite, wo_bind, ↓reduceIte, and_true, true_and, and_self, Bool.false_eq_true, Bool.not_true, Bool.not_false, decide_eq_true_eq, decide_true, decide_false, oneInt_int, twoInts_int,
  add_ii, add_ll, add_tt, add_ss, sub_ii, mul_ii, mulS_ii, mod_ii, fdiv_ii, neg_i, le_ii, gt_ii, ge_ii, eqT_ii, eqT_ss, eqT_bb, eqT_nn, ltT_ii, ltT_ss, wo_eqD, wo_neD, wo_ltD, wo_inD, wo_ninD, is_n, isnt_n, is_bb, isnt_bb, isN, bOf_b, iOf_i, tru_b, tru_n, tru_i, tru_l, tru_t, seq_l, seq_t, tup_l, tup_t, lst_l, lst_t, len_l, len_t, int_i, int_b, abs_i, max_ii, min_ii, ix_li, ix_ti, cut_l, cut_t, flat_i, flat_b, flat_s, ix0, ix1, ix2, mkTup, mkLst,
  ws_par3, three_c, ws_grp, empty_own, lOwnD_own, wm_lcW, wm_getD, wm_ind, ix3, ix4, ix_m2, ix_m1, ix_p2, ix_p1, wm_newD, ws_setK, wm_get, wm_ixK, wm_sortN, ws_ext, dOwn_own, lOwn_own, lsD_list, step_nx, step_cnt, step_brk, step_ret, step_rof, wm_reve, rev_l, rev_t, wm_opBL, repr_l, sort_l, sum_l, wm_enum, enum_l, enum_t, enumL_nil, wm_dic, wm_kvn, wm_kvc, seq_s, mulT_si, len_s, ord_c, str_i, ty_d, k_lb, k_li, k_ls, k_tb, k_ti, k_ts, k_db, k_di, k_ds, k_lt, k_tl,
  isi_1, tyOk_n, tyOk_b, tyOk_i, tyOk_s, tyOk_l, tyOk_t, ty_n, ty_b, ty_i, ty_s, ty_l, ty_t, k_nb, k_bb, k_ib, k_sb, k_ni, k_bi, k_ii, k_si, k_ns, k_bs, k_is, k_ss, k_ll, k_tt,
  Int.reduceNeg, Int.reducePow, Int.reduceLT, Int.reduceLE, Int.reduceAdd, Int.reduceSub, Int.reduceMul, Int.reduceToNat, Nat.reduceAdd, Nat.reduceLeDiff, Nat.reduceEqDiff, Int.reduceEq, reduceCtorEq, g1, g2, g3, ho]
        have hr0 := Int.emod_nonneg (m * m + 7 * m + k + t) (show (618970019642690137449562111 : Int) ≠ 0 by decide)
        have hr1 := Int.emod_lt_of_pos (m * m + 7 * m + k + t) (show (0 : Int) < 618970019642690137449562111 by decide)
        generalize (m * m + 7 * m + k + t) % 618970019642690137449562111 = m' at hr0 hr1 ⊢
        refine ⟨.inl trivial, m', num * 618970019642690137449562111 + m', _, rfl, hr0, Int.lt_of_lt_of_le hr1 (by decide), ?_, ?_, rfl⟩
        · have := Int.mul_nonneg hn0 (show (0 : Int) ≤ 618970019642690137449562111 by decide)
          omega
        · rw [List.length_append]
          show _ < (2 : Int) ^ (90 * (p.length + 1) + 1)
          have h2 : (2 : Int) ^ (90 * (p.length + 1) + 1) = 2 ^ (90 * p.length + 1) * 2 ^ 90 := by rw [← Int.pow_add]; congr 1
          rw [h2]
          have h3 : num * 618970019642690137449562111 ≤ (2 ^ (90 * p.length + 1) - 1) * 618970019642690137449562111 := Int.mul_le_mul_of_nonneg_right (by omega) (by decide)
          have h4 : (1 : Int) ≤ 2 ^ (90 * p.length + 1) := by omega
          generalize (2 : Int) ^ (90 * p.length + 1) = b at h3 h4 ⊢
          have h5 : (2 : Int) ^ 90 = 1237940039285380274899124224 := by decide
          rw [h5]
          omega
      · rintro ρ' ⟨m, num, o, _, _, _, _, _, rfl⟩
        simp only [backE, wipeE, wo_some, wo_none, wm_c, wm_var, wm_frz, wm_bin, wm_un, wm_tst, wm_tru, wm_truB, wm_chain, wm_and, wm_or, wm_not, wm_andV, wm_orV, wm_notV, wm_ifE, wm_nil, wm_cons, wm_app, wm_noP, wm_part, wm_sl, wm_pk, wm_io, wm_ix, wm_inB, wm_true, wm_seq, wm_rng1, wm_rng2,
  then_nx, then_ret, then_rof, then_brk, then_cnt, ws_next, ws_brk, ws_cnt, ws_seq, ws_if, ws_ret, ws_rof, ws_drop, ws_set, ws_own, ws_asg, wo_TN, wo_TNil, wo_TCons, wo_TTup, ws_ap, ws_setIx, ws_for, for_nil, turn_nx, turn_cnt, turn_brk, turn_ret, turn_rof, wm_lc, end_ret, end_nx, end_rof, end_io, ownOf_own, valOf_val, frz_val, frz_own, cOwn_own, peek_val, peek_own, by_val, by_own, canSet_none, canSet_val, canSet_own, lstOf_list,
  List.getElem?_cons_zero, List.getElem?_cons_succ, List.set_cons_zero, List.set_cons_succ, List.length_cons, List.length_nil, wo_ite, wo_bind, ↓reduceIte, and_true, true_and, and_self, Bool.false_eq_true, Bool.not_true, Bool.not_false, decide_eq_true_eq, decide_true, decide_false, oneInt_int, twoInts_int,
  add_ii, add_ll, add_tt, add_ss, sub_ii, mul_ii, mulS_ii, mod_ii, fdiv_ii, neg_i, le_ii, gt_ii, ge_ii, eqT_ii, eqT_ss, eqT_bb, eqT_nn, ltT_ii, ltT_ss, wo_eqD, wo_neD, wo_ltD, wo_inD, wo_ninD, is_n, isnt_n, is_bb, isnt_bb, isN, bOf_b, iOf_i, tru_b, tru_n, tru_i, tru_l, tru_t, seq_l, seq_t, tup_l, tup_t, lst_l, lst_t, len_l, len_t, int_i, int_b, abs_i, max_ii, min_ii, ix_li, ix_ti, cut_l, cut_t, flat_i, flat_b, flat_s, ix0, ix1, ix2, mkTup, mkLst,
  ws_par3, three_c, ws_grp, empty_own, lOwnD_own, wm_lcW, wm_getD, wm_ind, ix3, ix4, ix_m2, ix_m1, ix_p2, ix_p1, wm_newD, ws_setK, wm_get, wm_ixK, wm_sortN, ws_ext, dOwn_own, lOwn_own, lsD_list, step_nx, step_cnt, step_brk, step_ret, step_rof, wm_reve, rev_l, rev_t, wm_opBL, repr_l, sort_l, sum_l, wm_enum, enum_l, enum_t, enumL_nil, wm_dic, wm_kvn, wm_kvc, seq_s, mulT_si, len_s, ord_c, str_i, ty_d, k_lb, k_li, k_ls, k_tb, k_ti, k_ts, k_db, k_di, k_ds, k_lt, k_tl,
  isi_1, tyOk_n, tyOk_b, tyOk_i, tyOk_s, tyOk_l, tyOk_t, ty_n, ty_b, ty_i, ty_s, ty_l, ty_t, k_nb, k_bb, k_ib, k_sb, k_ni, k_bi, k_ii, k_si, k_ns, k_bs, k_is, k_ss, k_ll, k_tt,
  Int.reduceNeg, Int.reducePow, Int.reduceLT, Int.reduceLE, Int.reduceAdd, Int.reduceSub, Int.reduceMul, Int.reduceToNat, Nat.reduceAdd, Nat.reduceLeDiff, Nat.reduceEqDiff, Int.reduceEq, reduceCtorEq]
        exact q _
    · exact q _
  · exact q _
theorem wo_cell {ns : List Int} {k : Int} {Q : D → Prop} (hk : 0 ≤ k) (q : ∀ n : Int, Q (.int n)) : Wo (f__law_cell [.list (ns.map PyData.int), .int k]) Q := by
  unfold f__law_cell
  rw [wo_runV]
  show Ws g__law_cell [some (.val (.list (ns.map PyData.int))), some (.val (.int k))] _
  unfold g__law_cell
  simp only [backE, wipeE, wo_some, wo_none, wm_c, wm_var, wm_frz, wm_bin, wm_un, wm_tst, wm_tru, wm_truB, wm_chain, wm_and, wm_or, wm_not, wm_andV, wm_orV, wm_notV, wm_ifE, wm_nil, wm_cons, wm_app, wm_noP, wm_part, wm_sl, wm_pk, wm_io, wm_ix, wm_inB, wm_true, wm_seq, wm_rng1, wm_rng2,
  then_nx, then_ret, then_rof, then_brk, then_cnt, ws_next, ws_brk, ws_cnt, ws_seq, ws_if, ws_ret, ws_rof, ws_drop, ws_set, ws_own, ws_asg, wo_TN, wo_TNil, wo_TCons, wo_TTup, ws_ap, ws_setIx, ws_for, for_nil, turn_nx, turn_cnt, turn_brk, turn_ret, turn_rof, wm_lc, end_ret, end_nx, end_rof, end_io, ownOf_own, valOf_val, frz_val, frz_own, cOwn_own, peek_val, peek_own, by_val, by_own, canSet_none, canSet_val, canSet_own, lstOf_list,
  List.getElem?_cons_zero, List.getElem?_cons_succ, List.set_cons_zero, List.set_cons_succ, List.length_cons, List.length_nil, wo_ite, wo_bind, ↓reduceIte, and_true, true_and, and_self, Bool.false_eq_true, Bool.not_true, Bool.not_false, decide_eq_true_eq, decide_true, decide_false, oneInt_int, twoInts_int,
  add_ii, add_ll, add_tt, add_ss, sub_ii, mul_ii, mulS_ii, mod_ii, fdiv_ii, neg_i, le_ii, gt_ii, ge_ii, eqT_ii, eqT_ss, eqT_bb, eqT_nn, ltT_ii, ltT_ss, wo_eqD, wo_neD, wo_ltD, wo_inD, wo_ninD, is_n, isnt_n, is_bb, isnt_bb, isN, bOf_b, iOf_i, tru_b, tru_n, tru_i, tru_l, tru_t, seq_l, seq_t, tup_l, tup_t, lst_l, lst_t, len_l, len_t, int_i, int_b, abs_i, max_ii, min_ii, ix_li, ix_ti, cut_l, cut_t, flat_i, flat_b, flat_s, ix0, ix1, ix2, mkTup, mkLst,
  ws_par3, three_c, ws_grp, empty_own, lOwnD_own, wm_lcW, wm_getD, wm_ind, ix3, ix4, ix_m2, ix_m1, ix_p2, ix_p1, wm_newD, ws_setK, wm_get, wm_ixK, wm_sortN, ws_ext, dOwn_own, lOwn_own, lsD_list, step_nx, step_cnt, step_brk, step_ret, step_rof, wm_reve, rev_l, rev_t, wm_opBL, repr_l, sort_l, sum_l, wm_enum, enum_l, enum_t, enumL_nil, wm_dic, wm_kvn, wm_kvc, seq_s, mulT_si, len_s, ord_c, str_i, ty_d, k_lb, k_li, k_ls, k_tb, k_ti, k_ts, k_db, k_di, k_ds, k_lt, k_tl,
  isi_1, tyOk_n, tyOk_b, tyOk_i, tyOk_s, tyOk_l, tyOk_t, ty_n, ty_b, ty_i, ty_s, ty_l, ty_t, k_nb, k_bb, k_ib, k_sb, k_ni, k_bi, k_ii, k_si, k_ns, k_bs, k_is, k_ss, k_ll, k_tt,
  Int.reduceNeg, Int.reducePow, Int.reduceLT, Int.reduceLE, Int.reduceAdd, Int.reduceSub, Int.reduceMul, Int.reduceToNat, Nat.reduceAdd, Nat.reduceLeDiff, Nat.reduceEqDiff, Int.reduceEq, reduceCtorEq]
  split
  · rename_i h
    refine wo_ix hk (by simpa using h) fun x hx => ?_
    obtain ⟨n, _, rfl⟩ := List.mem_map.mp hx
    exact q n
  · exact q _

theorem wo_rowT {n : Int} {ps : List (Str × Str)} {fd : D} {Q : D × D → Prop} (hs : seqOf fd = some (ps.map fdD)) (hk : ∀ p ∈ ps, kd p.2) (hl : ps.length ≤ 1000) (q : ∀ vs n', fitsB vs ps = true → (∀ v ∈ vs, gv v) → (∀ v ∈ vs, isV v = true) → Q (.tuple vs, .list [.int n'])) : Wo (f__law_row (.list [.int n]) [fd]) Q := by
  unfold f__law_row
  rw [wo_runIO]
  show Ws g__law_row [some (.own true (.list [.int n])), some (.val fd), none] _
  unfold g__law_row
  simp only [backE, wipeE, wo_some, wo_none, wm_c, wm_var, wm_frz, wm_bin, wm_un, wm_tst, wm_tru, wm_truB, wm_chain, wm_and, wm_or, wm_not, wm_andV, wm_orV, wm_notV, wm_ifE, wm_nil, wm_cons, wm_app, wm_noP, wm_part, wm_sl, wm_pk, wm_io, wm_ix, wm_inB, wm_true, wm_seq, wm_rng1, wm_rng2,
  then_nx, then_ret, then_rof, then_brk, then_cnt, ws_next, ws_brk, ws_cnt, ws_seq, ws_if, ws_ret, ws_rof, ws_drop, ws_set, ws_own, ws_asg, wo_TN, wo_TNil, wo_TCons, wo_TTup, ws_ap, ws_setIx, ws_for, for_nil, turn_nx, turn_cnt, turn_brk, turn_ret, turn_rof, wm_lc, end_ret, end_nx, end_rof, end_io, ownOf_own, valOf_val, frz_val, frz_own, cOwn_own, peek_val, peek_own, by_val, by_own, canSet_none, canSet_val, canSet_own, lstOf_list,
  List.getElem?_cons_zero, List.getElem?_cons_succ, List.set_cons_zero, List.set_cons_succ, List.length_cons, List.length_nil, wo_ite, wo_bind, ↓reduceIte, and_true, true_and, and_self, Bool.false_eq_true, Bool.not_true, Bool.not_false, decide_eq_true_eq, decide_true, decide_false, oneInt_int, twoInts_int,
  add_ii, add_ll, add_tt, add_ss, sub_ii, mul_ii, mulS_ii, mod_ii, fdiv_ii, neg_i, le_ii, gt_ii, ge_ii, eqT_ii, eqT_ss, eqT_bb, eqT_nn, ltT_ii, ltT_ss, wo_eqD, wo_neD, wo_ltD, wo_inD, wo_ninD, is_n, isnt_n, is_bb, isnt_bb, isN, bOf_b, iOf_i, tru_b, tru_n, tru_i, tru_l, tru_t, seq_l, seq_t, tup_l, tup_t, lst_l, lst_t, len_l, len_t, int_i, int_b, abs_i, max_ii, min_ii, ix_li, ix_ti, cut_l, cut_t, flat_i, flat_b, flat_s, ix0, ix1, ix2, mkTup, mkLst,
  ws_par3, three_c, ws_grp, empty_own, lOwnD_own, wm_lcW, wm_getD, wm_ind, ix3, ix4, ix_m2, ix_m1, ix_p2, ix_p1, wm_newD, ws_setK, wm_get, wm_ixK, wm_sortN, ws_ext, dOwn_own, lOwn_own, lsD_list, step_nx, step_cnt, step_brk, step_ret, step_rof, wm_reve, rev_l, rev_t, wm_opBL, repr_l, sort_l, sum_l, wm_enum, enum_l, enum_t, enumL_nil, wm_dic, wm_kvn, wm_kvc, seq_s, mulT_si, len_s, ord_c, str_i, ty_d, k_lb, k_li, k_ls, k_tb, k_ti, k_ts, k_db, k_di, k_ds, k_lt, k_tl,
  isi_1, tyOk_n, tyOk_b, tyOk_i, tyOk_s, tyOk_l, tyOk_t, ty_n, ty_b, ty_i, ty_s, ty_l, ty_t, k_nb, k_bb, k_ib, k_sb, k_ni, k_bi, k_ii, k_si, k_ns, k_bs, k_is, k_ss, k_ll, k_tt,
  Int.reduceNeg, Int.reducePow, Int.reduceLT, Int.reduceLE, Int.reduceAdd, Int.reduceSub, Int.reduceMul, Int.reduceToNat, Nat.reduceAdd, Nat.reduceLeDiff, Nat.reduceEqDiff, Int.reduceEq, reduceCtorEq, sp_digit, hs, List.length_map]
  refine ⟨⟨by omega, rfl⟩, ?_⟩
  refine lc_inv (fun p a ρ => ∃ n' qs, ρ = [some (.own true (.list [.int n'])), some (.val fd), none] ∧ p = qs.map fdD ∧ fitsB a qs = true ∧ (∀ v ∈ a, gv v) ∧ ∀ v ∈ a, isV v = true) (ps.map fdD) [] [] _ ⟨n, [], rfl, rfl, rfl, by simp, by simp⟩ ?_ ?_
  · rintro p d r a ρ e ⟨n', qs, rfl, rfl, hf, hga, hva⟩
    obtain ⟨pk, hpk, rfl⟩ : ∃ pk ∈ ps, d = fdD pk := by
      have : d ∈ ps.map fdD := by rw [show ps.map fdD = qs.map fdD ++ d :: r from e]; simp
      obtain ⟨pk, h1, h2⟩ := List.mem_map.mp this
      exact ⟨pk, h1, h2.symm⟩
    simp only [backE, wipeE, wo_some, wo_none, wm_c, wm_var, wm_frz, wm_bin, wm_un, wm_tst, wm_tru, wm_truB, wm_chain, wm_and, wm_or, wm_not, wm_andV, wm_orV, wm_notV, wm_ifE, wm_nil, wm_cons, wm_app, wm_noP, wm_part, wm_sl, wm_pk, wm_io, wm_ix, wm_inB, wm_true, wm_seq, wm_rng1, wm_rng2,
  then_nx, then_ret, then_rof, then_brk, then_cnt, ws_next, ws_brk, ws_cnt, ws_seq, ws_if, ws_ret, ws_rof, ws_drop, ws_set, ws_own, ws_asg, wo_TN, wo_TNil, wo_TCons, wo_TTup, ws_ap, ws_setIx, ws_for, for_nil, turn_nx, turn_cnt, turn_brk, turn_ret, turn_rof, wm_lc, end_ret, end_nx, end_rof, end_io, ownOf_own, valOf_val, frz_val, frz_own, cOwn_own, peek_val, peek_own, by_val, by_own, canSet_none, canSet_val, canSet_own, lstOf_list,
  List.getElem?_cons_zero, List.getElem?_cons_succ, List.set_cons_zero, List.set_cons_succ, List.length_cons, List.length_nil, wo_ite, wo_bind, ↓reduceIte, and_true, true_and, and_self, Bool.false_eq_true, Bool.not_true, Bool.not_false, decide_eq_true_eq, decide_true, decide_false, oneInt_int, twoInts_int,
  add_ii, add_ll, add_tt, add_ss, sub_ii, mul_ii, mulS_ii, mod_ii, fdiv_ii, neg_i, le_ii, gt_ii, ge_ii, eqT_ii, eqT_ss, eqT_bb, eqT_nn, ltT_ii, ltT_ss, wo_eqD, wo_neD, wo_ltD, wo_inD, wo_ninD, is_n, isnt_n, is_bb, isnt_bb, isN, bOf_b, iOf_i, tru_b, tru_n, tru_i, tru_l, tru_t, seq_l, seq_t, tup_l, tup_t, lst_l, lst_t, len_l, len_t, int_i, int_b, abs_i, max_ii, min_ii, ix_li, ix_ti, cut_l, cut_t, flat_i, flat_b, flat_s, ix0, ix1, ix2, mkTup, mkLst,
  ws_par3, three_c, ws_grp, empty_own, lOwnD_own, wm_lcW, wm_getD, wm_ind, ix3, ix4, ix_m2, ix_m1, ix_p2, ix_p1, wm_newD, ws_setK, wm_get, wm_ixK, wm_sortN, ws_ext, dOwn_own, lOwn_own, lsD_list, step_nx, step_cnt, step_brk, step_ret, step_rof, wm_reve, rev_l, rev_t, wm_opBL, repr_l, sort_l, sum_l, wm_enum, enum_l, enum_t, enumL_nil, wm_dic, wm_kvn, wm_kvc, seq_s, mulT_si, len_s, ord_c, str_i, ty_d, k_lb, k_li, k_ls, k_tb, k_ti, k_ts, k_db, k_di, k_ds, k_lt, k_tl,
  isi_1, tyOk_n, tyOk_b, tyOk_i, tyOk_s, tyOk_l, tyOk_t, ty_n, ty_b, ty_i, ty_s, ty_l, ty_t, k_nb, k_bb, k_ib, k_sb, k_ni, k_bi, k_ii, k_si, k_ns, k_bs, k_is, k_ss, k_ll, k_tt,
  Int.reduceNeg, Int.reducePow, Int.reduceLT, Int.reduceLE, Int.reduceAdd, Int.reduceSub, Int.reduceMul, Int.reduceToNat, Nat.reduceAdd, Nat.reduceLeDiff, Nat.reduceEqDiff, Int.reduceEq, reduceCtorEq, sp_digit, fdD]
    refine wo_valueT fun d n2 hd hty hvd => ?_
    refine ⟨n2, qs ++ [pk], rfl, by simp [fdD], fits_snoc hf (hty (hk pk hpk)), fun v hv => ?_, fun v hv => ?_⟩ <;> rcases List.mem_append.mp hv with h | h
    · exact hga v h
    · rw [List.mem_singleton.mp h]
      exact hd
    · exact hva v h
    · rw [List.mem_singleton.mp h]
      exact hvd
  · rintro a ρ' ⟨n', qs, rfl, he, hf, hga, hva⟩
    have e2 : qs = ps := fdD_inj (by simpa using he.symm)
    subst e2
    show Wo (some (PyData.list [.int n'])) _
    rw [wo_some]
    exact q _ _ hf hga hva

theorem sp_vo {d : D} (h : gv d) : f_value_order [d] = some (vo d) := by
  rw [← wo_eq]
  unfold f_value_order
  rw [wo_runV]
  show Ws g_value_order [some (.val d)] _
  unfold g_value_order
  rcases gv_cases h with rfl | ⟨b, rfl⟩ | ⟨i, rfl⟩ | ⟨s, rfl⟩ <;> simp only [backE, wipeE, wo_some, wo_none, wm_c, wm_var, wm_frz, wm_bin, wm_un, wm_tst, wm_tru, wm_truB, wm_chain, wm_and, wm_or, wm_not, wm_andV, wm_orV, wm_notV, wm_ifE, wm_nil, wm_cons, wm_app, wm_noP, wm_part, wm_sl, wm_pk, wm_io, wm_ix, wm_inB, wm_true, wm_seq, wm_rng1, wm_rng2,
  then_nx, then_ret, then_rof, then_brk, then_cnt, ws_next, ws_brk, ws_cnt, ws_seq, ws_if, ws_ret, ws_rof, ws_drop, ws_set, ws_own, ws_asg, wo_TN, wo_TNil, wo_TCons, wo_TTup, ws_ap, ws_setIx, ws_for, for_nil, turn_nx, turn_cnt, turn_brk, turn_ret, turn_rof, wm_lc, end_ret, end_nx, end_rof, end_io, ownOf_own, valOf_val, frz_val, frz_own, cOwn_own, peek_val, peek_own, by_val, by_own, canSet_none, canSet_val, canSet_own, lstOf_list,
  List.getElem?_cons_zero, List.getElem?_cons_succ, List.set_cons_zero, List.set_cons_succ, List.length_cons, List.length_nil, wo_ite, wo_bind, ↓reduceIte, and_true, true_and, and_self, Bool.false_eq_true, Bool.not_true, Bool.not_false, decide_eq_true_eq, decide_true, decide_false, oneInt_int, twoInts_int,
  add_ii, add_ll, add_tt, add_ss, sub_ii, mul_ii, mulS_ii, mod_ii, fdiv_ii, neg_i, le_ii, gt_ii, ge_ii, eqT_ii, eqT_ss, eqT_bb, eqT_nn, ltT_ii, ltT_ss, wo_eqD, wo_neD, wo_ltD, wo_inD, wo_ninD, is_n, isnt_n, is_bb, isnt_bb, isN, bOf_b, iOf_i, tru_b, tru_n, tru_i, tru_l, tru_t, seq_l, seq_t, tup_l, tup_t, lst_l, lst_t, len_l, len_t, int_i, int_b, abs_i, max_ii, min_ii, ix_li, ix_ti, cut_l, cut_t, flat_i, flat_b, flat_s, ix0, ix1, ix2, mkTup, mkLst,
  ws_par3, three_c, ws_grp, empty_own, lOwnD_own, wm_lcW, wm_getD, wm_ind, ix3, ix4, ix_m2, ix_m1, ix_p2, ix_p1, wm_newD, ws_setK, wm_get, wm_ixK, wm_sortN, ws_ext, dOwn_own, lOwn_own, lsD_list, step_nx, step_cnt, step_brk, step_ret, step_rof, wm_reve, rev_l, rev_t, wm_opBL, repr_l, sort_l, sum_l, wm_enum, enum_l, enum_t, enumL_nil, wm_dic, wm_kvn, wm_kvc, seq_s, mulT_si, len_s, ord_c, str_i, ty_d, k_lb, k_li, k_ls, k_tb, k_ti, k_ts, k_db, k_di, k_ds, k_lt, k_tl,
  isi_1, tyOk_n, tyOk_b, tyOk_i, tyOk_s, tyOk_l, tyOk_t, ty_n, ty_b, ty_i, ty_s, ty_l, ty_t, k_nb, k_bb, k_ib, k_sb, k_ni, k_bi, k_ii, k_si, k_ns, k_bs, k_is, k_ss, k_ll, k_tt,
  Int.reduceNeg, Int.reducePow, Int.reduceLT, Int.reduceLE, Int.reduceAdd, Int.reduceSub, Int.reduceMul, Int.reduceToNat, Nat.reduceAdd, Nat.reduceLeDiff, Nat.reduceEqDiff, Int.reduceEq, reduceCtorEq, vo]
theorem sp_rank {d : D} (h : gv d) : f__law_rank [d] = some (.int (rk d)) := by
  rw [← wo_eq]
  unfold f__law_rank
  rw [wo_runV]
  show Ws g__law_rank [some (.val d)] _
  unfold g__law_rank
  rcases gv_cases h with rfl | ⟨b, rfl⟩ | ⟨i, rfl⟩ | ⟨s, rfl⟩ <;> simp only [backE, wipeE, wo_some, wo_none, wm_c, wm_var, wm_frz, wm_bin, wm_un, wm_tst, wm_tru, wm_truB, wm_chain, wm_and, wm_or, wm_not, wm_andV, wm_orV, wm_notV, wm_ifE, wm_nil, wm_cons, wm_app, wm_noP, wm_part, wm_sl, wm_pk, wm_io, wm_ix, wm_inB, wm_true, wm_seq, wm_rng1, wm_rng2,
  then_nx, then_ret, then_rof, then_brk, then_cnt, ws_next, ws_brk, ws_cnt, ws_seq, ws_if, ws_ret, ws_rof, ws_drop, ws_set, ws_own, ws_asg, wo_TN, wo_TNil, wo_TCons, wo_TTup, ws_ap, ws_setIx, ws_for, for_nil, turn_nx, turn_cnt, turn_brk, turn_ret, turn_rof, wm_lc, end_ret, end_nx, end_rof, end_io, ownOf_own, valOf_val, frz_val, frz_own, cOwn_own, peek_val, peek_own, by_val, by_own, canSet_none, canSet_val, canSet_own, lstOf_list,
  List.getElem?_cons_zero, List.getElem?_cons_succ, List.set_cons_zero, List.set_cons_succ, List.length_cons, List.length_nil, wo_ite, wo_bind, ↓reduceIte, and_true, true_and, and_self, Bool.false_eq_true, Bool.not_true, Bool.not_false, decide_eq_true_eq, decide_true, decide_false, oneInt_int, twoInts_int,
  add_ii, add_ll, add_tt, add_ss, sub_ii, mul_ii, mulS_ii, mod_ii, fdiv_ii, neg_i, le_ii, gt_ii, ge_ii, eqT_ii, eqT_ss, eqT_bb, eqT_nn, ltT_ii, ltT_ss, wo_eqD, wo_neD, wo_ltD, wo_inD, wo_ninD, is_n, isnt_n, is_bb, isnt_bb, isN, bOf_b, iOf_i, tru_b, tru_n, tru_i, tru_l, tru_t, seq_l, seq_t, tup_l, tup_t, lst_l, lst_t, len_l, len_t, int_i, int_b, abs_i, max_ii, min_ii, ix_li, ix_ti, cut_l, cut_t, flat_i, flat_b, flat_s, ix0, ix1, ix2, mkTup, mkLst,
  ws_par3, three_c, ws_grp, empty_own, lOwnD_own, wm_lcW, wm_getD, wm_ind, ix3, ix4, ix_m2, ix_m1, ix_p2, ix_p1, wm_newD, ws_setK, wm_get, wm_ixK, wm_sortN, ws_ext, dOwn_own, lOwn_own, lsD_list, step_nx, step_cnt, step_brk, step_ret, step_rof, wm_reve, rev_l, rev_t, wm_opBL, repr_l, sort_l, sum_l, wm_enum, enum_l, enum_t, enumL_nil, wm_dic, wm_kvn, wm_kvc, seq_s, mulT_si, len_s, ord_c, str_i, ty_d, k_lb, k_li, k_ls, k_tb, k_ti, k_ts, k_db, k_di, k_ds, k_lt, k_tl,
  isi_1, tyOk_n, tyOk_b, tyOk_i, tyOk_s, tyOk_l, tyOk_t, ty_n, ty_b, ty_i, ty_s, ty_l, ty_t, k_nb, k_bb, k_ib, k_sb, k_ni, k_bi, k_ii, k_si, k_ns, k_bs, k_is, k_ss, k_ll, k_tt,
  Int.reduceNeg, Int.reducePow, Int.reduceLT, Int.reduceLE, Int.reduceAdd, Int.reduceSub, Int.reduceMul, Int.reduceToNat, Nat.reduceAdd, Nat.reduceLeDiff, Nat.reduceEqDiff, Int.reduceEq, reduceCtorEq, rk]
theorem sp_before {a b : D} (ha : gv a) (hb : gv b) : f__law_before [a, b] = some (.bool (ltV a b)) := by
  rw [← wo_eq]
  unfold f__law_before
  rw [wo_runV]
  show Ws g__law_before [some (.val a), some (.val b)] _
  unfold g__law_before
  simp only [backE, wipeE, wo_some, wo_none, wm_c, wm_var, wm_frz, wm_bin, wm_un, wm_tst, wm_tru, wm_truB, wm_chain, wm_and, wm_or, wm_not, wm_andV, wm_orV, wm_notV, wm_ifE, wm_nil, wm_cons, wm_app, wm_noP, wm_part, wm_sl, wm_pk, wm_io, wm_ix, wm_inB, wm_true, wm_seq, wm_rng1, wm_rng2,
  then_nx, then_ret, then_rof, then_brk, then_cnt, ws_next, ws_brk, ws_cnt, ws_seq, ws_if, ws_ret, ws_rof, ws_drop, ws_set, ws_own, ws_asg, wo_TN, wo_TNil, wo_TCons, wo_TTup, ws_ap, ws_setIx, ws_for, for_nil, turn_nx, turn_cnt, turn_brk, turn_ret, turn_rof, wm_lc, end_ret, end_nx, end_rof, end_io, ownOf_own, valOf_val, frz_val, frz_own, cOwn_own, peek_val, peek_own, by_val, by_own, canSet_none, canSet_val, canSet_own, lstOf_list,
  List.getElem?_cons_zero, List.getElem?_cons_succ, List.set_cons_zero, List.set_cons_succ, List.length_cons, List.length_nil, wo_ite, wo_bind, ↓reduceIte, and_true, true_and, and_self, Bool.false_eq_true, Bool.not_true, Bool.not_false, decide_eq_true_eq, decide_true, decide_false, oneInt_int, twoInts_int,
  add_ii, add_ll, add_tt, add_ss, sub_ii, mul_ii, mulS_ii, mod_ii, fdiv_ii, neg_i, le_ii, gt_ii, ge_ii, eqT_ii, eqT_ss, eqT_bb, eqT_nn, ltT_ii, ltT_ss, wo_eqD, wo_neD, wo_ltD, wo_inD, wo_ninD, is_n, isnt_n, is_bb, isnt_bb, isN, bOf_b, iOf_i, tru_b, tru_n, tru_i, tru_l, tru_t, seq_l, seq_t, tup_l, tup_t, lst_l, lst_t, len_l, len_t, int_i, int_b, abs_i, max_ii, min_ii, ix_li, ix_ti, cut_l, cut_t, flat_i, flat_b, flat_s, ix0, ix1, ix2, mkTup, mkLst,
  ws_par3, three_c, ws_grp, empty_own, lOwnD_own, wm_lcW, wm_getD, wm_ind, ix3, ix4, ix_m2, ix_m1, ix_p2, ix_p1, wm_newD, ws_setK, wm_get, wm_ixK, wm_sortN, ws_ext, dOwn_own, lOwn_own, lsD_list, step_nx, step_cnt, step_brk, step_ret, step_rof, wm_reve, rev_l, rev_t, wm_opBL, repr_l, sort_l, sum_l, wm_enum, enum_l, enum_t, enumL_nil, wm_dic, wm_kvn, wm_kvc, seq_s, mulT_si, len_s, ord_c, str_i, ty_d, k_lb, k_li, k_ls, k_tb, k_ti, k_ts, k_db, k_di, k_ds, k_lt, k_tl,
  isi_1, tyOk_n, tyOk_b, tyOk_i, tyOk_s, tyOk_l, tyOk_t, ty_n, ty_b, ty_i, ty_s, ty_l, ty_t, k_nb, k_bb, k_ib, k_sb, k_ni, k_bi, k_ii, k_si, k_ns, k_bs, k_is, k_ss, k_ll, k_tt,
  Int.reduceNeg, Int.reducePow, Int.reduceLT, Int.reduceLE, Int.reduceAdd, Int.reduceSub, Int.reduceMul, Int.reduceToNat, Nat.reduceAdd, Nat.reduceLeDiff, Nat.reduceEqDiff, Int.reduceEq, reduceCtorEq, sp_rank ha, sp_rank hb]
  unfold ltV
  by_cases h : rk a = rk b
  · simp only [h, decide_true, Bool.not_true, Bool.false_eq_true, ↓reduceIte, ne_eq, not_true_eq_false]
    rcases gv_cases ha with rfl | ⟨p, rfl⟩ | ⟨i, rfl⟩ | ⟨s, rfl⟩ <;> rcases gv_cases hb with rfl | ⟨q, rfl⟩ | ⟨j, rfl⟩ | ⟨t, rfl⟩ <;> simp only [rk] at h ⊢ <;> first | (exfalso; (repeat' split at h) <;> omega) | skip
    · simp
    · cases q <;> simp
    · simp only [backE, wipeE, wo_some, wo_none, wm_c, wm_var, wm_frz, wm_bin, wm_un, wm_tst, wm_tru, wm_truB, wm_chain, wm_and, wm_or, wm_not, wm_andV, wm_orV, wm_notV, wm_ifE, wm_nil, wm_cons, wm_app, wm_noP, wm_part, wm_sl, wm_pk, wm_io, wm_ix, wm_inB, wm_true, wm_seq, wm_rng1, wm_rng2,
  then_nx, then_ret, then_rof, then_brk, then_cnt, ws_next, ws_brk, ws_cnt, ws_seq, ws_if, ws_ret, ws_rof, ws_drop, ws_set, ws_own, ws_asg, wo_TN, wo_TNil, wo_TCons, wo_TTup, ws_ap, ws_setIx, ws_for, for_nil, turn_nx, turn_cnt, turn_brk, turn_ret, turn_rof, wm_lc, end_ret, end_nx, end_rof, end_io, ownOf_own, valOf_val, frz_val, frz_own, cOwn_own, peek_val, peek_own, by_val, by_own, canSet_none, canSet_val, canSet_own, lstOf_list,
  List.getElem?_cons_zero, List.getElem?_cons_succ, List.set_cons_zero, List.set_cons_succ, List.length_cons, List.length_nil, wo_ite, wo_bind, ↓reduceIte, and_true, true_and, and_self, Bool.false_eq_true, Bool.not_true, Bool.not_false, decide_eq_true_eq, decide_true, decide_false, oneInt_int, twoInts_int,
  add_ii, add_ll, add_tt, add_ss, sub_ii, mul_ii, mulS_ii, mod_ii, fdiv_ii, neg_i, le_ii, gt_ii, ge_ii, eqT_ii, eqT_ss, eqT_bb, eqT_nn, ltT_ii, ltT_ss, wo_eqD, wo_neD, wo_ltD, wo_inD, wo_ninD, is_n, isnt_n, is_bb, isnt_bb, isN, bOf_b, iOf_i, tru_b, tru_n, tru_i, tru_l, tru_t, seq_l, seq_t, tup_l, tup_t, lst_l, lst_t, len_l, len_t, int_i, int_b, abs_i, max_ii, min_ii, ix_li, ix_ti, cut_l, cut_t, flat_i, flat_b, flat_s, ix0, ix1, ix2, mkTup, mkLst,
  ws_par3, three_c, ws_grp, empty_own, lOwnD_own, wm_lcW, wm_getD, wm_ind, ix3, ix4, ix_m2, ix_m1, ix_p2, ix_p1, wm_newD, ws_setK, wm_get, wm_ixK, wm_sortN, ws_ext, dOwn_own, lOwn_own, lsD_list, step_nx, step_cnt, step_brk, step_ret, step_rof, wm_reve, rev_l, rev_t, wm_opBL, repr_l, sort_l, sum_l, wm_enum, enum_l, enum_t, enumL_nil, wm_dic, wm_kvn, wm_kvc, seq_s, mulT_si, len_s, ord_c, str_i, ty_d, k_lb, k_li, k_ls, k_tb, k_ti, k_ts, k_db, k_di, k_ds, k_lt, k_tl,
  isi_1, tyOk_n, tyOk_b, tyOk_i, tyOk_s, tyOk_l, tyOk_t, ty_n, ty_b, ty_i, ty_s, ty_l, ty_t, k_nb, k_bb, k_ib, k_sb, k_ni, k_bi, k_ii, k_si, k_ns, k_bs, k_is, k_ss, k_ll, k_tt,
  Int.reduceNeg, Int.reducePow, Int.reduceLT, Int.reduceLE, Int.reduceAdd, Int.reduceSub, Int.reduceMul, Int.reduceToNat, Nat.reduceAdd, Nat.reduceLeDiff, Nat.reduceEqDiff, Int.reduceEq, reduceCtorEq]
    · simp only [backE, wipeE, wo_some, wo_none, wm_c, wm_var, wm_frz, wm_bin, wm_un, wm_tst, wm_tru, wm_truB, wm_chain, wm_and, wm_or, wm_not, wm_andV, wm_orV, wm_notV, wm_ifE, wm_nil, wm_cons, wm_app, wm_noP, wm_part, wm_sl, wm_pk, wm_io, wm_ix, wm_inB, wm_true, wm_seq, wm_rng1, wm_rng2,
  then_nx, then_ret, then_rof, then_brk, then_cnt, ws_next, ws_brk, ws_cnt, ws_seq, ws_if, ws_ret, ws_rof, ws_drop, ws_set, ws_own, ws_asg, wo_TN, wo_TNil, wo_TCons, wo_TTup, ws_ap, ws_setIx, ws_for, for_nil, turn_nx, turn_cnt, turn_brk, turn_ret, turn_rof, wm_lc, end_ret, end_nx, end_rof, end_io, ownOf_own, valOf_val, frz_val, frz_own, cOwn_own, peek_val, peek_own, by_val, by_own, canSet_none, canSet_val, canSet_own, lstOf_list,
  List.getElem?_cons_zero, List.getElem?_cons_succ, List.set_cons_zero, List.set_cons_succ, List.length_cons, List.length_nil, wo_ite, wo_bind, ↓reduceIte, and_true, true_and, and_self, Bool.false_eq_true, Bool.not_true, Bool.not_false, decide_eq_true_eq, decide_true, decide_false, oneInt_int, twoInts_int,
  add_ii, add_ll, add_tt, add_ss, sub_ii, mul_ii, mulS_ii, mod_ii, fdiv_ii, neg_i, le_ii, gt_ii, ge_ii, eqT_ii, eqT_ss, eqT_bb, eqT_nn, ltT_ii, ltT_ss, wo_eqD, wo_neD, wo_ltD, wo_inD, wo_ninD, is_n, isnt_n, is_bb, isnt_bb, isN, bOf_b, iOf_i, tru_b, tru_n, tru_i, tru_l, tru_t, seq_l, seq_t, tup_l, tup_t, lst_l, lst_t, len_l, len_t, int_i, int_b, abs_i, max_ii, min_ii, ix_li, ix_ti, cut_l, cut_t, flat_i, flat_b, flat_s, ix0, ix1, ix2, mkTup, mkLst,
  ws_par3, three_c, ws_grp, empty_own, lOwnD_own, wm_lcW, wm_getD, wm_ind, ix3, ix4, ix_m2, ix_m1, ix_p2, ix_p1, wm_newD, ws_setK, wm_get, wm_ixK, wm_sortN, ws_ext, dOwn_own, lOwn_own, lsD_list, step_nx, step_cnt, step_brk, step_ret, step_rof, wm_reve, rev_l, rev_t, wm_opBL, repr_l, sort_l, sum_l, wm_enum, enum_l, enum_t, enumL_nil, wm_dic, wm_kvn, wm_kvc, seq_s, mulT_si, len_s, ord_c, str_i, ty_d, k_lb, k_li, k_ls, k_tb, k_ti, k_ts, k_db, k_di, k_ds, k_lt, k_tl,
  isi_1, tyOk_n, tyOk_b, tyOk_i, tyOk_s, tyOk_l, tyOk_t, ty_n, ty_b, ty_i, ty_s, ty_l, ty_t, k_nb, k_bb, k_ib, k_sb, k_ni, k_bi, k_ii, k_si, k_ns, k_bs, k_is, k_ss, k_ll, k_tt,
  Int.reduceNeg, Int.reducePow, Int.reduceLT, Int.reduceLE, Int.reduceAdd, Int.reduceSub, Int.reduceMul, Int.reduceToNat, Nat.reduceAdd, Nat.reduceLeDiff, Nat.reduceEqDiff, Int.reduceEq, reduceCtorEq]
  · simp [h]
/-! rows by the program -/
theorem sp_row_order {xs : List D} (h : ∀ v ∈ xs, gv v) (hl : xs.length ≤ 16777216) : f_row_order [.tuple xs] = some (.tuple (xs.map vo)) := by
  rw [← wo_eq]
  unfold f_row_order
  rw [wo_runV]
  show Ws g_row_order [some (.val (.tuple xs)), none] _
  unfold g_row_order
  simp only [backE, wipeE, wo_some, wo_none, wm_c, wm_var, wm_frz, wm_bin, wm_un, wm_tst, wm_tru, wm_truB, wm_chain, wm_and, wm_or, wm_not, wm_andV, wm_orV, wm_notV, wm_ifE, wm_nil, wm_cons, wm_app, wm_noP, wm_part, wm_sl, wm_pk, wm_io, wm_ix, wm_inB, wm_true, wm_seq, wm_rng1, wm_rng2,
  then_nx, then_ret, then_rof, then_brk, then_cnt, ws_next, ws_brk, ws_cnt, ws_seq, ws_if, ws_ret, ws_rof, ws_drop, ws_set, ws_own, ws_asg, wo_TN, wo_TNil, wo_TCons, wo_TTup, ws_ap, ws_setIx, ws_for, for_nil, turn_nx, turn_cnt, turn_brk, turn_ret, turn_rof, wm_lc, end_ret, end_nx, end_rof, end_io, ownOf_own, valOf_val, frz_val, frz_own, cOwn_own, peek_val, peek_own, by_val, by_own, canSet_none, canSet_val, canSet_own, lstOf_list,
  List.getElem?_cons_zero, List.getElem?_cons_succ, List.set_cons_zero, List.set_cons_succ, List.length_cons, List.length_nil, wo_ite, wo_bind, ↓reduceIte, and_true, true_and, and_self, Bool.false_eq_true, Bool.not_true, Bool.not_false, decide_eq_true_eq, decide_true, decide_false, oneInt_int, twoInts_int,
  add_ii, add_ll, add_tt, add_ss, sub_ii, mul_ii, mulS_ii, mod_ii, fdiv_ii, neg_i, le_ii, gt_ii, ge_ii, eqT_ii, eqT_ss, eqT_bb, eqT_nn, ltT_ii, ltT_ss, wo_eqD, wo_neD, wo_ltD, wo_inD, wo_ninD, is_n, isnt_n, is_bb, isnt_bb, isN, bOf_b, iOf_i, tru_b, tru_n, tru_i, tru_l, tru_t, seq_l, seq_t, tup_l, tup_t, lst_l, lst_t, len_l, len_t, int_i, int_b, abs_i, max_ii, min_ii, ix_li, ix_ti, cut_l, cut_t, flat_i, flat_b, flat_s, ix0, ix1, ix2, mkTup, mkLst,
  ws_par3, three_c, ws_grp, empty_own, lOwnD_own, wm_lcW, wm_getD, wm_ind, ix3, ix4, ix_m2, ix_m1, ix_p2, ix_p1, wm_newD, ws_setK, wm_get, wm_ixK, wm_sortN, ws_ext, dOwn_own, lOwn_own, lsD_list, step_nx, step_cnt, step_brk, step_ret, step_rof, wm_reve, rev_l, rev_t, wm_opBL, repr_l, sort_l, sum_l, wm_enum, enum_l, enum_t, enumL_nil, wm_dic, wm_kvn, wm_kvc, seq_s, mulT_si, len_s, ord_c, str_i, ty_d, k_lb, k_li, k_ls, k_tb, k_ti, k_ts, k_db, k_di, k_ds, k_lt, k_tl,
  isi_1, tyOk_n, tyOk_b, tyOk_i, tyOk_s, tyOk_l, tyOk_t, ty_n, ty_b, ty_i, ty_s, ty_l, ty_t, k_nb, k_bb, k_ib, k_sb, k_ni, k_bi, k_ii, k_si, k_ns, k_bs, k_is, k_ss, k_ll, k_tt,
  Int.reduceNeg, Int.reducePow, Int.reduceLT, Int.reduceLE, Int.reduceAdd, Int.reduceSub, Int.reduceMul, Int.reduceToNat, Nat.reduceAdd, Nat.reduceLeDiff, Nat.reduceEqDiff, Int.reduceEq, reduceCtorEq]
  refine ⟨⟨hl, rfl⟩, ?_⟩
  refine lc_map vo xs (fun d hd => ?_) rfl
  show Wo (gTN 1 d [some (.val (.tuple xs)), none]) _
  simp only [backE, wipeE, wo_some, wo_none, wm_c, wm_var, wm_frz, wm_bin, wm_un, wm_tst, wm_tru, wm_truB, wm_chain, wm_and, wm_or, wm_not, wm_andV, wm_orV, wm_notV, wm_ifE, wm_nil, wm_cons, wm_app, wm_noP, wm_part, wm_sl, wm_pk, wm_io, wm_ix, wm_inB, wm_true, wm_seq, wm_rng1, wm_rng2,
  then_nx, then_ret, then_rof, then_brk, then_cnt, ws_next, ws_brk, ws_cnt, ws_seq, ws_if, ws_ret, ws_rof, ws_drop, ws_set, ws_own, ws_asg, wo_TN, wo_TNil, wo_TCons, wo_TTup, ws_ap, ws_setIx, ws_for, for_nil, turn_nx, turn_cnt, turn_brk, turn_ret, turn_rof, wm_lc, end_ret, end_nx, end_rof, end_io, ownOf_own, valOf_val, frz_val, frz_own, cOwn_own, peek_val, peek_own, by_val, by_own, canSet_none, canSet_val, canSet_own, lstOf_list,
  List.getElem?_cons_zero, List.getElem?_cons_succ, List.set_cons_zero, List.set_cons_succ, List.length_cons, List.length_nil, wo_ite, wo_bind, ↓reduceIte, and_true, true_and, and_self, Bool.false_eq_true, Bool.not_true, Bool.not_false, decide_eq_true_eq, decide_true, decide_false, oneInt_int, twoInts_int,
  add_ii, add_ll, add_tt, add_ss, sub_ii, mul_ii, mulS_ii, mod_ii, fdiv_ii, neg_i, le_ii, gt_ii, ge_ii, eqT_ii, eqT_ss, eqT_bb, eqT_nn, ltT_ii, ltT_ss, wo_eqD, wo_neD, wo_ltD, wo_inD, wo_ninD, is_n, isnt_n, is_bb, isnt_bb, isN, bOf_b, iOf_i, tru_b, tru_n, tru_i, tru_l, tru_t, seq_l, seq_t, tup_l, tup_t, lst_l, lst_t, len_l, len_t, int_i, int_b, abs_i, max_ii, min_ii, ix_li, ix_ti, cut_l, cut_t, flat_i, flat_b, flat_s, ix0, ix1, ix2, mkTup, mkLst,
  ws_par3, three_c, ws_grp, empty_own, lOwnD_own, wm_lcW, wm_getD, wm_ind, ix3, ix4, ix_m2, ix_m1, ix_p2, ix_p1, wm_newD, ws_setK, wm_get, wm_ixK, wm_sortN, ws_ext, dOwn_own, lOwn_own, lsD_list, step_nx, step_cnt, step_brk, step_ret, step_rof, wm_reve, rev_l, rev_t, wm_opBL, repr_l, sort_l, sum_l, wm_enum, enum_l, enum_t, enumL_nil, wm_dic, wm_kvn, wm_kvc, seq_s, mulT_si, len_s, ord_c, str_i, ty_d, k_lb, k_li, k_ls, k_tb, k_ti, k_ts, k_db, k_di, k_ds, k_lt, k_tl,
  isi_1, tyOk_n, tyOk_b, tyOk_i, tyOk_s, tyOk_l, tyOk_t, ty_n, ty_b, ty_i, ty_s, ty_l, ty_t, k_nb, k_bb, k_ib, k_sb, k_ni, k_bi, k_ii, k_si, k_ns, k_bs, k_is, k_ss, k_ll, k_tt,
  Int.reduceNeg, Int.reducePow, Int.reduceLT, Int.reduceLE, Int.reduceAdd, Int.reduceSub, Int.reduceMul, Int.reduceToNat, Nat.reduceAdd, Nat.reduceLeDiff, Nat.reduceEqDiff, Int.reduceEq, reduceCtorEq, sp_vo (h d hd)]
  all_goals rfl
theorem row_loop {xs ys : List D} (hx : ∀ v ∈ xs, gv v) (hy : ∀ v ∈ ys, gv v) : ∀ (m i : Nat) (o : Option Cell), canSet (some o) = some () → i + m = min xs.length ys.length →
    Ws (forD (gTN 2) (sSeq (sIf (gTru (gApp f__law_before (gCons (gBin ixD (gVar 0) (gVar 2)) (gCons (gBin ixD (gVar 1) (gVar 2)) gNil)))) (sRet (gC (.bool true))) sNext)
      (sIf (gTru (gApp f__law_before (gCons (gBin ixD (gVar 1) (gVar 2)) (gCons (gBin ixD (gVar 0) (gVar 2)) gNil)))) (sRet (gC (.bool false))) sNext)) ((List.range' i m).map fun i : Nat => PyData.int i))
      [some (.val (.tuple xs)), some (.val (.tuple ys)), o] (thenQ (sRet (gBin ltD (gApp lenF (gCons (gVar 0) gNil)) (gApp lenF (gCons (gVar 1) gNil)))) fun f ρ => Wo (endV (f, ρ)) fun r => r = .bool (ltR (xs.drop i) (ys.drop i)))
  | 0, i, o, ho, e => by
    rw [List.range'_zero, List.map_nil]
    simp only [backE, wipeE, wo_some, wo_none, wm_c, wm_var, wm_frz, wm_bin, wm_un, wm_tst, wm_tru, wm_truB, wm_chain, wm_and, wm_or, wm_not, wm_andV, wm_orV, wm_notV, wm_ifE, wm_nil, wm_cons, wm_app, wm_noP, wm_part, wm_sl, wm_pk, wm_io, wm_ix, wm_inB, wm_true, wm_seq, wm_rng1, wm_rng2,
  then_nx, then_ret, then_rof, then_brk, then_cnt, ws_next, ws_brk, ws_cnt, ws_seq, ws_if, ws_ret, ws_rof, ws_drop, ws_set, ws_own, ws_asg, wo_TN, wo_TNil, wo_TCons, wo_TTup, ws_ap, ws_setIx, ws_for, for_nil, turn_nx, turn_cnt, turn_brk, turn_ret, turn_rof, wm_lc, end_ret, end_nx, end_rof, end_io, ownOf_own, valOf_val, frz_val, frz_own, cOwn_own, peek_val, peek_own, by_val, by_own, canSet_none, canSet_val, canSet_own, lstOf_list,
  List.getElem?_cons_zero, List.getElem?_cons_succ, List.set_cons_zero, List.set_cons_succ, List.length_cons, List.length_nil, wo_ite, wo_bind, ↓reduceIte, and_true, true_and, and_self, Bool.false_eq_true, Bool.not_true, Bool.not_false, decide_eq_true_eq, decide_true, decide_false, oneInt_int, twoInts_int,
  add_ii, add_ll, add_tt, add_ss, sub_ii, mul_ii, mulS_ii, mod_ii, fdiv_ii, neg_i, le_ii, gt_ii, ge_ii, eqT_ii, eqT_ss, eqT_bb, eqT_nn, ltT_ii, ltT_ss, wo_eqD, wo_neD, wo_ltD, wo_inD, wo_ninD, is_n, isnt_n, is_bb, isnt_bb, isN, bOf_b, iOf_i, tru_b, tru_n, tru_i, tru_l, tru_t, seq_l, seq_t, tup_l, tup_t, lst_l, lst_t, len_l, len_t, int_i, int_b, abs_i, max_ii, min_ii, ix_li, ix_ti, cut_l, cut_t, flat_i, flat_b, flat_s, ix0, ix1, ix2, mkTup, mkLst,
  ws_par3, three_c, ws_grp, empty_own, lOwnD_own, wm_lcW, wm_getD, wm_ind, ix3, ix4, ix_m2, ix_m1, ix_p2, ix_p1, wm_newD, ws_setK, wm_get, wm_ixK, wm_sortN, ws_ext, dOwn_own, lOwn_own, lsD_list, step_nx, step_cnt, step_brk, step_ret, step_rof, wm_reve, rev_l, rev_t, wm_opBL, repr_l, sort_l, sum_l, wm_enum, enum_l, enum_t, enumL_nil, wm_dic, wm_kvn, wm_kvc, seq_s, mulT_si, len_s, ord_c, str_i, ty_d, k_lb, k_li, k_ls, k_tb, k_ti, k_ts, k_db, k_di, k_ds, k_lt, k_tl,
  isi_1, tyOk_n, tyOk_b, tyOk_i, tyOk_s, tyOk_l, tyOk_t, ty_n, ty_b, ty_i, ty_s, ty_l, ty_t, k_nb, k_bb, k_ib, k_sb, k_ni, k_bi, k_ii, k_si, k_ns, k_bs, k_is, k_ss, k_ll, k_tt,
  Int.reduceNeg, Int.reducePow, Int.reduceLT, Int.reduceLE, Int.reduceAdd, Int.reduceSub, Int.reduceMul, Int.reduceToNat, Nat.reduceAdd, Nat.reduceLeDiff, Nat.reduceEqDiff, Int.reduceEq, reduceCtorEq]
    have hl : ∀ (xs ys : List D) (i : Nat), i = min xs.length ys.length → decide ((xs.length : Int) < ys.length) = ltR (xs.drop i) (ys.drop i) := by
      intro xs ys i e
      by_cases h : xs.length < ys.length
      · have h1 : i = xs.length := by omega
        rw [h1, List.drop_length, decide_eq_true (by omega)]
        cases q : ys.drop xs.length with
        | nil =>
          have := congrArg List.length q
          simp at this
          omega
        | cons _ _ => rfl
      · have h1 : i = ys.length := by omega
        rw [h1, List.drop_length, decide_eq_false (by omega)]
        cases xs.drop ys.length <;> rfl
    rw [hl xs ys i e]
  | m + 1, i, o, ho, e => by
    rw [List.range'_succ, List.map_cons, for_cons]
    have h1 : i < xs.length := by omega
    have h2 : i < ys.length := by omega
    have e1 : ixA xs (i : Int) = some xs[i] := (ixA_nat xs i).trans (List.getElem?_eq_getElem h1)
    have e2 : ixA ys (i : Int) = some ys[i] := (ixA_nat ys i).trans (List.getElem?_eq_getElem h2)
    have gx := hx _ (List.getElem_mem h1)
    have gy := hy _ (List.getElem_mem h2)
    have ih := row_loop hx hy m (i + 1) (some (.val (.int i))) rfl (by omega)
    simp only [backE, wipeE, wo_some, wo_none, wm_c, wm_var, wm_frz, wm_bin, wm_un, wm_tst, wm_tru, wm_truB, wm_chain, wm_and, wm_or, wm_not, wm_andV, wm_orV, wm_notV, wm_ifE, wm_nil, wm_cons, wm_app, wm_noP, wm_part, wm_sl, wm_pk, wm_io, wm_ix, wm_inB, wm_true, wm_seq, wm_rng1, wm_rng2,
  then_nx, then_ret, then_rof, then_brk, then_cnt, ws_next, ws_brk, ws_cnt, ws_seq, ws_if, ws_ret, ws_rof, ws_drop, ws_set, ws_own, ws_asg, wo_TN, wo_TNil, wo_TCons, wo_TTup, ws_ap, ws_setIx, ws_for, for_nil, turn_nx, turn_cnt, turn_brk, turn_ret, turn_rof, wm_lc, end_ret, end_nx, end_rof, end_io, ownOf_own, valOf_val, frz_val, frz_own, cOwn_own, peek_val, peek_own, by_val, by_own, canSet_none, canSet_val, canSet_own, lstOf_list,
  List.getElem?_cons_zero, List.getElem?_cons_succ, List.set_cons_zero, List.set_cons_succ, List.length_cons, List.length_nil, wo_ite, wo_bind, ↓reduceIte, and_true, true_and, and_self, Bool.false_eq_true, Bool.not_true, Bool.not_false, decide_eq_true_eq, decide_true, decide_false, oneInt_int, twoInts_int,
  add_ii, add_ll, add_tt, add_ss, sub_ii, mul_ii, mulS_ii, mod_ii, fdiv_ii, neg_i, le_ii, gt_ii, ge_ii, eqT_ii, eqT_ss, eqT_bb, eqT_nn, ltT_ii, ltT_ss, wo_eqD, wo_neD, wo_ltD, wo_inD, wo_ninD, is_n, isnt_n, is_bb, isnt_bb, isN, bOf_b, iOf_i, tru_b, tru_n, tru_i, tru_l, tru_t, seq_l, seq_t, tup_l, tup_t, lst_l, lst_t, len_l, len_t, int_i, int_b, abs_i, max_ii, min_ii, ix_li, ix_ti, cut_l, cut_t, flat_i, flat_b, flat_s, ix0, ix1, ix2, mkTup, mkLst,
  ws_par3, three_c, ws_grp, empty_own, lOwnD_own, wm_lcW, wm_getD, wm_ind, ix3, ix4, ix_m2, ix_m1, ix_p2, ix_p1, wm_newD, ws_setK, wm_get, wm_ixK, wm_sortN, ws_ext, dOwn_own, lOwn_own, lsD_list, step_nx, step_cnt, step_brk, step_ret, step_rof, wm_reve, rev_l, rev_t, wm_opBL, repr_l, sort_l, sum_l, wm_enum, enum_l, enum_t, enumL_nil, wm_dic, wm_kvn, wm_kvc, seq_s, mulT_si, len_s, ord_c, str_i, ty_d, k_lb, k_li, k_ls, k_tb, k_ti, k_ts, k_db, k_di, k_ds, k_lt, k_tl,
  isi_1, tyOk_n, tyOk_b, tyOk_i, tyOk_s, tyOk_l, tyOk_t, ty_n, ty_b, ty_i, ty_s, ty_l, ty_t, k_nb, k_bb, k_ib, k_sb, k_ni, k_bi, k_ii, k_si, k_ns, k_bs, k_is, k_ss, k_ll, k_tt,
  Int.reduceNeg, Int.reducePow, Int.reduceLT, Int.reduceLE, Int.reduceAdd, Int.reduceSub, Int.reduceMul, Int.reduceToNat, Nat.reduceAdd, Nat.reduceLeDiff, Nat.reduceEqDiff, Int.reduceEq, reduceCtorEq, ho, e1, e2, sp_before gx gy, sp_before gy gx]
    rw [List.drop_eq_getElem_cons h1, List.drop_eq_getElem_cons h2, ltR]
    split
    · rfl
    · split
      · rfl
      · exact ih
theorem sp_row_before {xs ys : List D} (hx : ∀ v ∈ xs, gv v) (hy : ∀ v ∈ ys, gv v) (hl : xs.length ≤ 1000) (hl' : ys.length ≤ 1000) : f__law_row_before [.tuple xs, .tuple ys] = some (.bool (ltR xs ys)) := by
  rw [← wo_eq]
  unfold f__law_row_before
  rw [wo_runV]
  show Ws g__law_row_before [some (.val (.tuple xs)), some (.val (.tuple ys)), none] _
  unfold g__law_row_before
  simp only [backE, wipeE, wo_some, wo_none, wm_c, wm_var, wm_frz, wm_bin, wm_un, wm_tst, wm_tru, wm_truB, wm_chain, wm_and, wm_or, wm_not, wm_andV, wm_orV, wm_notV, wm_ifE, wm_nil, wm_cons, wm_app, wm_noP, wm_part, wm_sl, wm_pk, wm_io, wm_ix, wm_inB, wm_true, wm_seq, wm_rng1, wm_rng2,
  then_nx, then_ret, then_rof, then_brk, then_cnt, ws_next, ws_brk, ws_cnt, ws_seq, ws_if, ws_ret, ws_rof, ws_drop, ws_set, ws_own, ws_asg, wo_TN, wo_TNil, wo_TCons, wo_TTup, ws_ap, ws_setIx, ws_for, for_nil, turn_nx, turn_cnt, turn_brk, turn_ret, turn_rof, wm_lc, end_ret, end_nx, end_rof, end_io, ownOf_own, valOf_val, frz_val, frz_own, cOwn_own, peek_val, peek_own, by_val, by_own, canSet_none, canSet_val, canSet_own, lstOf_list,
  List.getElem?_cons_zero, List.getElem?_cons_succ, List.set_cons_zero, List.set_cons_succ, List.length_cons, List.length_nil, wo_ite, wo_bind, ↓reduceIte, and_true, true_and, and_self, Bool.false_eq_true, Bool.not_true, Bool.not_false, decide_eq_true_eq, decide_true, decide_false, oneInt_int, twoInts_int,
  add_ii, add_ll, add_tt, add_ss, sub_ii, mul_ii, mulS_ii, mod_ii, fdiv_ii, neg_i, le_ii, gt_ii, ge_ii, eqT_ii, eqT_ss, eqT_bb, eqT_nn, ltT_ii, ltT_ss, wo_eqD, wo_neD, wo_ltD, wo_inD, wo_ninD, is_n, isnt_n, is_bb, isnt_bb, isN, bOf_b, iOf_i, tru_b, tru_n, tru_i, tru_l, tru_t, seq_l, seq_t, tup_l, tup_t, lst_l, lst_t, len_l, len_t, int_i, int_b, abs_i, max_ii, min_ii, ix_li, ix_ti, cut_l, cut_t, flat_i, flat_b, flat_s, ix0, ix1, ix2, mkTup, mkLst,
  ws_par3, three_c, ws_grp, empty_own, lOwnD_own, wm_lcW, wm_getD, wm_ind, ix3, ix4, ix_m2, ix_m1, ix_p2, ix_p1, wm_newD, ws_setK, wm_get, wm_ixK, wm_sortN, ws_ext, dOwn_own, lOwn_own, lsD_list, step_nx, step_cnt, step_brk, step_ret, step_rof, wm_reve, rev_l, rev_t, wm_opBL, repr_l, sort_l, sum_l, wm_enum, enum_l, enum_t, enumL_nil, wm_dic, wm_kvn, wm_kvc, seq_s, mulT_si, len_s, ord_c, str_i, ty_d, k_lb, k_li, k_ls, k_tb, k_ti, k_ts, k_db, k_di, k_ds, k_lt, k_tl,
  isi_1, tyOk_n, tyOk_b, tyOk_i, tyOk_s, tyOk_l, tyOk_t, ty_n, ty_b, ty_i, ty_s, ty_l, ty_t, k_nb, k_bb, k_ib, k_sb, k_ni, k_bi, k_ii, k_si, k_ns, k_bs, k_is, k_ss, k_ll, k_tt,
  Int.reduceNeg, Int.reducePow, Int.reduceLT, Int.reduceLE, Int.reduceAdd, Int.reduceSub, Int.reduceMul, Int.reduceToNat, Nat.reduceAdd, Nat.reduceLeDiff, Nat.reduceEqDiff, Int.reduceEq, reduceCtorEq]
  have e : (if (ys.length : Int) < xs.length then (ys.length : Int) else xs.length) = ((min xs.length ys.length : Nat) : Int) := by
    split <;> omega
  rw [e, if_pos (small_nat (by omega)), Int.toNat_natCast, rng_eq]
  exact row_loop hx hy _ 0 none rfl (by omega)
theorem sp_alike {xs ys : List D} (hx : ∀ v ∈ xs, gv v) (hy : ∀ v ∈ ys, gv v) (hl : xs.length ≤ 1000) (hl' : ys.length ≤ 1000) : f__law_alike [.tuple xs, .tuple ys] = some (.bool (!ltR xs ys && !ltR ys xs)) := by
  rw [← wo_eq]
  unfold f__law_alike
  rw [wo_runV]
  show Ws g__law_alike [some (.val (.tuple xs)), some (.val (.tuple ys))] _
  unfold g__law_alike
  simp only [backE, wipeE, wo_some, wo_none, wm_c, wm_var, wm_frz, wm_bin, wm_un, wm_tst, wm_tru, wm_truB, wm_chain, wm_and, wm_or, wm_not, wm_andV, wm_orV, wm_notV, wm_ifE, wm_nil, wm_cons, wm_app, wm_noP, wm_part, wm_sl, wm_pk, wm_io, wm_ix, wm_inB, wm_true, wm_seq, wm_rng1, wm_rng2,
  then_nx, then_ret, then_rof, then_brk, then_cnt, ws_next, ws_brk, ws_cnt, ws_seq, ws_if, ws_ret, ws_rof, ws_drop, ws_set, ws_own, ws_asg, wo_TN, wo_TNil, wo_TCons, wo_TTup, ws_ap, ws_setIx, ws_for, for_nil, turn_nx, turn_cnt, turn_brk, turn_ret, turn_rof, wm_lc, end_ret, end_nx, end_rof, end_io, ownOf_own, valOf_val, frz_val, frz_own, cOwn_own, peek_val, peek_own, by_val, by_own, canSet_none, canSet_val, canSet_own, lstOf_list,
  List.getElem?_cons_zero, List.getElem?_cons_succ, List.set_cons_zero, List.set_cons_succ, List.length_cons, List.length_nil, wo_ite, wo_bind, ↓reduceIte, and_true, true_and, and_self, Bool.false_eq_true, Bool.not_true, Bool.not_false, decide_eq_true_eq, decide_true, decide_false, oneInt_int, twoInts_int,
  add_ii, add_ll, add_tt, add_ss, sub_ii, mul_ii, mulS_ii, mod_ii, fdiv_ii, neg_i, le_ii, gt_ii, ge_ii, eqT_ii, eqT_ss, eqT_bb, eqT_nn, ltT_ii, ltT_ss, wo_eqD, wo_neD, wo_ltD, wo_inD, wo_ninD, is_n, isnt_n, is_bb, isnt_bb, isN, bOf_b, iOf_i, tru_b, tru_n, tru_i, tru_l, tru_t, seq_l, seq_t, tup_l, tup_t, lst_l, lst_t, len_l, len_t, int_i, int_b, abs_i, max_ii, min_ii, ix_li, ix_ti, cut_l, cut_t, flat_i, flat_b, flat_s, ix0, ix1, ix2, mkTup, mkLst,
  ws_par3, three_c, ws_grp, empty_own, lOwnD_own, wm_lcW, wm_getD, wm_ind, ix3, ix4, ix_m2, ix_m1, ix_p2, ix_p1, wm_newD, ws_setK, wm_get, wm_ixK, wm_sortN, ws_ext, dOwn_own, lOwn_own, lsD_list, step_nx, step_cnt, step_brk, step_ret, step_rof, wm_reve, rev_l, rev_t, wm_opBL, repr_l, sort_l, sum_l, wm_enum, enum_l, enum_t, enumL_nil, wm_dic, wm_kvn, wm_kvc, seq_s, mulT_si, len_s, ord_c, str_i, ty_d, k_lb, k_li, k_ls, k_tb, k_ti, k_ts, k_db, k_di, k_ds, k_lt, k_tl,
  isi_1, tyOk_n, tyOk_b, tyOk_i, tyOk_s, tyOk_l, tyOk_t, ty_n, ty_b, ty_i, ty_s, ty_l, ty_t, k_nb, k_bb, k_ib, k_sb, k_ni, k_bi, k_ii, k_si, k_ns, k_bs, k_is, k_ss, k_ll, k_tt,
  Int.reduceNeg, Int.reducePow, Int.reduceLT, Int.reduceLE, Int.reduceAdd, Int.reduceSub, Int.reduceMul, Int.reduceToNat, Nat.reduceAdd, Nat.reduceLeDiff, Nat.reduceEqDiff, Int.reduceEq, reduceCtorEq, sp_row_before hx hy hl hl', sp_row_before hy hx hl' hl]
  cases ltR xs ys <;> simp

theorem sp_move_order {t w : Int} {r : List D} (h : okK (t, r)) : f_move_order [.tuple [.int t, .tuple r, .int w]] = some (kyD (t, r)) := by
  rw [← wo_eq]
  unfold f_move_order
  rw [wo_runV]
  show Ws g_move_order [some (.val (.tuple [.int t, .tuple r, .int w]))] _
  unfold g_move_order
  simp only [backE, wipeE, wo_some, wo_none, wm_c, wm_var, wm_frz, wm_bin, wm_un, wm_tst, wm_tru, wm_truB, wm_chain, wm_and, wm_or, wm_not, wm_andV, wm_orV, wm_notV, wm_ifE, wm_nil, wm_cons, wm_app, wm_noP, wm_part, wm_sl, wm_pk, wm_io, wm_ix, wm_inB, wm_true, wm_seq, wm_rng1, wm_rng2,
  then_nx, then_ret, then_rof, then_brk, then_cnt, ws_next, ws_brk, ws_cnt, ws_seq, ws_if, ws_ret, ws_rof, ws_drop, ws_set, ws_own, ws_asg, wo_TN, wo_TNil, wo_TCons, wo_TTup, ws_ap, ws_setIx, ws_for, for_nil, turn_nx, turn_cnt, turn_brk, turn_ret, turn_rof, wm_lc, end_ret, end_nx, end_rof, end_io, ownOf_own, valOf_val, frz_val, frz_own, cOwn_own, peek_val, peek_own, by_val, by_own, canSet_none, canSet_val, canSet_own, lstOf_list,
  List.getElem?_cons_zero, List.getElem?_cons_succ, List.set_cons_zero, List.set_cons_succ, List.length_cons, List.length_nil, wo_ite, wo_bind, ↓reduceIte, and_true, true_and, and_self, Bool.false_eq_true, Bool.not_true, Bool.not_false, decide_eq_true_eq, decide_true, decide_false, oneInt_int, twoInts_int,
  add_ii, add_ll, add_tt, add_ss, sub_ii, mul_ii, mulS_ii, mod_ii, fdiv_ii, neg_i, le_ii, gt_ii, ge_ii, eqT_ii, eqT_ss, eqT_bb, eqT_nn, ltT_ii, ltT_ss, wo_eqD, wo_neD, wo_ltD, wo_inD, wo_ninD, is_n, isnt_n, is_bb, isnt_bb, isN, bOf_b, iOf_i, tru_b, tru_n, tru_i, tru_l, tru_t, seq_l, seq_t, tup_l, tup_t, lst_l, lst_t, len_l, len_t, int_i, int_b, abs_i, max_ii, min_ii, ix_li, ix_ti, cut_l, cut_t, flat_i, flat_b, flat_s, ix0, ix1, ix2, mkTup, mkLst,
  ws_par3, three_c, ws_grp, empty_own, lOwnD_own, wm_lcW, wm_getD, wm_ind, ix3, ix4, ix_m2, ix_m1, ix_p2, ix_p1, wm_newD, ws_setK, wm_get, wm_ixK, wm_sortN, ws_ext, dOwn_own, lOwn_own, lsD_list, step_nx, step_cnt, step_brk, step_ret, step_rof, wm_reve, rev_l, rev_t, wm_opBL, repr_l, sort_l, sum_l, wm_enum, enum_l, enum_t, enumL_nil, wm_dic, wm_kvn, wm_kvc, seq_s, mulT_si, len_s, ord_c, str_i, ty_d, k_lb, k_li, k_ls, k_tb, k_ti, k_ts, k_db, k_di, k_ds, k_lt, k_tl,
  isi_1, tyOk_n, tyOk_b, tyOk_i, tyOk_s, tyOk_l, tyOk_t, ty_n, ty_b, ty_i, ty_s, ty_l, ty_t, k_nb, k_bb, k_ib, k_sb, k_ni, k_bi, k_ii, k_si, k_ns, k_bs, k_is, k_ss, k_ll, k_tt,
  Int.reduceNeg, Int.reducePow, Int.reduceLT, Int.reduceLE, Int.reduceAdd, Int.reduceSub, Int.reduceMul, Int.reduceToNat, Nat.reduceAdd, Nat.reduceLeDiff, Nat.reduceEqDiff, Int.reduceEq, reduceCtorEq, sp_row_order h.1 (Nat.le_trans h.2 (by decide))]
  rfl
theorem put_rowsO {F : List Mv} {t w : Int} {r : List D} (h : okL F) (hn : nd F) (hk : okK (t, r)) (hl : F.length < 16777216) : putO (rowsD F) (kyD (t, r)) (.tuple r) = some (rowsD (addF F ((t, r), w))) := by
  unfold putO
  obtain ⟨n, e⟩ := nk_ky hk
  rw [if_pos ⟨rfl, by rw [e]; rfl, by rw [rowsD, List.length_map]; exact hl⟩]
  exact congrArg some (put_rows (m := ((t, r), w)) h hn hk)
theorem put_wtsO {F : List Mv} {t w : Int} {r : List D} (h : okL F) (hn : nd F) (hk : okK (t, r)) (hl : F.length < 16777216) : putO (wtsD F) (kyD (t, r)) (.int (wt F (t, r) + w)) = some (wtsD (addF F ((t, r), w))) := by
  unfold putO
  obtain ⟨n, e⟩ := nk_ky hk
  rw [if_pos ⟨rfl, by rw [e]; rfl, by rw [wtsD, List.length_map]; exact hl⟩]
  exact congrArg some (put_wts (m := ((t, r), w)) h hn hk)
theorem get_wtsO {F : List Mv} {k : Ky} (h : okL F) (hn : nd F) (hk : okK k) : getO (wtsD F) (kyD k) (.int 0) = some (.int (wt F k)) := by
  unfold getO
  obtain ⟨n, e⟩ := nk_ky hk
  rw [if_pos ⟨rfl, by rw [e]; rfl⟩, at_wts h hn hk]
theorem at_wtsO {F : List Mv} {m : Mv} (h : okL F) (hn : nd F) (hm : m ∈ F) : atO (wtsD F) (kyD m.1) = some (.int m.2) := by
  unfold atO
  obtain ⟨n, e⟩ := nk_ky (h m hm)
  rw [if_pos ⟨rfl, by rw [e]; rfl⟩, at_wts2 h hn hm]
theorem at_rowsO {F : List Mv} {m : Mv} (h : okL F) (hn : nd F) (hm : m ∈ F) : atO (rowsD F) (kyD m.1) = some (.tuple m.1.2) := by
  unfold atO
  obtain ⟨n, e⟩ := nk_ky (h m hm)
  rw [if_pos ⟨rfl, by rw [e]; rfl⟩, at_rows h hn hm]
theorem srt_wtsO {F : List Mv} (h : okL F) (hn : nd F) (hl : F.length ≤ 16777216) : srtO (wtsD F) = some (.list ((srt F).map fun m => kyD m.1)) := by
  unfold srtO
  have e : (wtsD F).map (·.1) = F.map fun m => kyD m.1 := by rw [wtsD, List.map_map]; rfl
  rw [e, if_pos (sortOk_kys h hl), sort_kys h hn]
theorem sp_flow_of {ms : List Mv} (h : okL ms) (hl : ms.length ≤ 1000000) : f_flow_of [.list (ms.map mvD)] = some (.list ((flw ms).map mvD)) := by
  rw [← wo_eq]
  unfold f_flow_of
  rw [wo_runV]
  show Ws g_flow_of [some (.val (.list (ms.map mvD))), none, none, none, none] _
  unfold g_flow_of
  simp only [backE, wipeE, wo_some, wo_none, wm_c, wm_var, wm_frz, wm_bin, wm_un, wm_tst, wm_tru, wm_truB, wm_chain, wm_and, wm_or, wm_not, wm_andV, wm_orV, wm_notV, wm_ifE, wm_nil, wm_cons, wm_app, wm_noP, wm_part, wm_sl, wm_pk, wm_io, wm_ix, wm_inB, wm_true, wm_seq, wm_rng1, wm_rng2,
  then_nx, then_ret, then_rof, then_brk, then_cnt, ws_next, ws_brk, ws_cnt, ws_seq, ws_if, ws_ret, ws_rof, ws_drop, ws_set, ws_own, ws_asg, wo_TN, wo_TNil, wo_TCons, wo_TTup, ws_ap, ws_setIx, ws_for, for_nil, turn_nx, turn_cnt, turn_brk, turn_ret, turn_rof, wm_lc, end_ret, end_nx, end_rof, end_io, ownOf_own, valOf_val, frz_val, frz_own, cOwn_own, peek_val, peek_own, by_val, by_own, canSet_none, canSet_val, canSet_own, lstOf_list,
  List.getElem?_cons_zero, List.getElem?_cons_succ, List.set_cons_zero, List.set_cons_succ, List.length_cons, List.length_nil, wo_ite, wo_bind, ↓reduceIte, and_true, true_and, and_self, Bool.false_eq_true, Bool.not_true, Bool.not_false, decide_eq_true_eq, decide_true, decide_false, oneInt_int, twoInts_int,
  add_ii, add_ll, add_tt, add_ss, sub_ii, mul_ii, mulS_ii, mod_ii, fdiv_ii, neg_i, le_ii, gt_ii, ge_ii, eqT_ii, eqT_ss, eqT_bb, eqT_nn, ltT_ii, ltT_ss, wo_eqD, wo_neD, wo_ltD, wo_inD, wo_ninD, is_n, isnt_n, is_bb, isnt_bb, isN, bOf_b, iOf_i, tru_b, tru_n, tru_i, tru_l, tru_t, seq_l, seq_t, tup_l, tup_t, lst_l, lst_t, len_l, len_t, int_i, int_b, abs_i, max_ii, min_ii, ix_li, ix_ti, cut_l, cut_t, flat_i, flat_b, flat_s, ix0, ix1, ix2, mkTup, mkLst,
  ws_par3, three_c, ws_grp, empty_own, lOwnD_own, wm_lcW, wm_getD, wm_ind, ix3, ix4, ix_m2, ix_m1, ix_p2, ix_p1, wm_newD, ws_setK, wm_get, wm_ixK, wm_sortN, ws_ext, dOwn_own, lOwn_own, lsD_list, step_nx, step_cnt, step_brk, step_ret, step_rof, wm_reve, rev_l, rev_t, wm_opBL, repr_l, sort_l, sum_l, wm_enum, enum_l, enum_t, enumL_nil, wm_dic, wm_kvn, wm_kvc, seq_s, mulT_si, len_s, ord_c, str_i, ty_d, k_lb, k_li, k_ls, k_tb, k_ti, k_ts, k_db, k_di, k_ds, k_lt, k_tl,
  isi_1, tyOk_n, tyOk_b, tyOk_i, tyOk_s, tyOk_l, tyOk_t, ty_n, ty_b, ty_i, ty_s, ty_l, ty_t, k_nb, k_bb, k_ib, k_sb, k_ni, k_bi, k_ii, k_si, k_ns, k_bs, k_is, k_ss, k_ll, k_tt,
  Int.reduceNeg, Int.reducePow, Int.reduceLT, Int.reduceLE, Int.reduceAdd, Int.reduceSub, Int.reduceMul, Int.reduceToNat, Nat.reduceAdd, Nat.reduceLeDiff, Nat.reduceEqDiff, Int.reduceEq, reduceCtorEq]
  refine ws_forA mvD (fun p ρ => ∃ (o3 o4 : Option Cell), (canSet (some o3) = some () ∧ (o4 = none ∨ ∃ d, o4 = some (.val d))) ∧ ρ = [some (.val (.list (ms.map mvD))), some (.own false (.dict (rowsD (fnd p)))), some (.own false (.dict (wtsD (fnd p)))), o3, o4]) ⟨none, none, ⟨rfl, .inl rfl⟩, rfl⟩ ?_ ?_
  · rintro p ⟨⟨t, r⟩, w⟩ s ρ e ⟨o3, o4, ⟨h3, h4'⟩, rfl⟩
    have h4 : canSet (some o4) = some () := by rcases h4' with rfl | ⟨d, rfl⟩ <;> rfl
    have hp : okL p := fun m hm => h m (by rw [e]; exact List.mem_append_left _ hm)
    have hk : okK (t, r) := h ((t, r), w) (by rw [e]; simp)
    have hpl : (fnd p).length < 16777216 := by
      have := congrArg List.length e
      rw [List.length_append, List.length_cons] at this
      have := fnd_len p
      omega
    have e2 : fnd (p ++ [((t, r), w)]) = addF (fnd p) ((t, r), w) := by unfold fnd; rw [List.foldl_append]; rfl
    simp only [backE, wipeE, wo_some, wo_none, wm_c, wm_var, wm_frz, wm_bin, wm_un, wm_tst, wm_tru, wm_truB, wm_chain, wm_and, wm_or, wm_not, wm_andV, wm_orV, wm_notV, wm_ifE, wm_nil, wm_cons, wm_app, wm_noP, wm_part, wm_sl, wm_pk, wm_io, wm_ix, wm_inB, wm_true, wm_seq, wm_rng1, wm_rng2,
  then_nx, then_ret, then_rof, then_brk, then_cnt, ws_next, ws_brk, ws_cnt, ws_seq, ws_if, ws_ret, ws_rof, ws_drop, ws_set, ws_own, ws_asg, wo_TN, wo_TNil, wo_TCons, wo_TTup, ws_ap, ws_setIx, ws_for, for_nil, turn_nx, turn_cnt, turn_brk, turn_ret, turn_rof, wm_lc, end_ret, end_nx, end_rof, end_io, ownOf_own, valOf_val, frz_val, frz_own, cOwn_own, peek_val, peek_own, by_val, by_own, canSet_none, canSet_val, canSet_own, lstOf_list,
  List.getElem?_cons_zero, List.getElem?_cons_succ, List.set_cons_zero, List.set_cons_succ, List.length_cons, List.length_nil, wo_ite, wo_bind, ↓reduceIte, and_true, true_and, and_self, Bool.false_eq_true, Bool.not_true, Bool.not_false, decide_eq_true_eq, decide_true, decide_false, oneInt_int, twoInts_int,
  add_ii, add_ll, add_tt, add_ss, sub_ii, mul_ii, mulS_ii, mod_ii, fdiv_ii, neg_i, le_ii, gt_ii, ge_ii, eqT_ii, eqT_ss, eqT_bb, eqT_nn, ltT_ii, ltT_ss, wo_eqD, wo_neD, wo_ltD, wo_inD, wo_ninD, is_n, isnt_n, is_bb, isnt_bb, isN, bOf_b, iOf_i, tru_b, tru_n, tru_i, tru_l, tru_t, seq_l, seq_t, tup_l, tup_t, lst_l, lst_t, len_l, len_t, int_i, int_b, abs_i, max_ii, min_ii, ix_li, ix_ti, cut_l, cut_t, flat_i, flat_b, flat_s, ix0, ix1, ix2, mkTup, mkLst,
  ws_par3, three_c, ws_grp, empty_own, lOwnD_own, wm_lcW, wm_getD, wm_ind, ix3, ix4, ix_m2, ix_m1, ix_p2, ix_p1, wm_newD, ws_setK, wm_get, wm_ixK, wm_sortN, ws_ext, dOwn_own, lOwn_own, lsD_list, step_nx, step_cnt, step_brk, step_ret, step_rof, wm_reve, rev_l, rev_t, wm_opBL, repr_l, sort_l, sum_l, wm_enum, enum_l, enum_t, enumL_nil, wm_dic, wm_kvn, wm_kvc, seq_s, mulT_si, len_s, ord_c, str_i, ty_d, k_lb, k_li, k_ls, k_tb, k_ti, k_ts, k_db, k_di, k_ds, k_lt, k_tl,
  isi_1, tyOk_n, tyOk_b, tyOk_i, tyOk_s, tyOk_l, tyOk_t, ty_n, ty_b, ty_i, ty_s, ty_l, ty_t, k_nb, k_bb, k_ib, k_sb, k_ni, k_bi, k_ii, k_si, k_ns, k_bs, k_is, k_ss, k_ll, k_tt,
  Int.reduceNeg, Int.reducePow, Int.reduceLT, Int.reduceLE, Int.reduceAdd, Int.reduceSub, Int.reduceMul, Int.reduceToNat, Nat.reduceAdd, Nat.reduceLeDiff, Nat.reduceEqDiff, Int.reduceEq, reduceCtorEq, mvD, h3, h4, sp_move_order hk, put_rowsO (w := w) (fnd_ok hp) (fnd_nd hp) hk hpl, get_wtsO (fnd_ok hp) (fnd_nd hp) hk, put_wtsO (w := w) (fnd_ok hp) (fnd_nd hp) hk hpl]
    exact ⟨_, _, ⟨rfl, .inr ⟨_, rfl⟩⟩, by rw [e2]⟩
  · rintro ρ' ⟨o3, o4, ⟨h3, h4⟩, rfl⟩
    have hF := fnd_ok h
    have hN := fnd_nd h
    have hfl := fnd_len ms
    have hS := srt_perm hF hN
    simp only [backE, wipeE, wo_some, wo_none, wm_c, wm_var, wm_frz, wm_bin, wm_un, wm_tst, wm_tru, wm_truB, wm_chain, wm_and, wm_or, wm_not, wm_andV, wm_orV, wm_notV, wm_ifE, wm_nil, wm_cons, wm_app, wm_noP, wm_part, wm_sl, wm_pk, wm_io, wm_ix, wm_inB, wm_true, wm_seq, wm_rng1, wm_rng2,
  then_nx, then_ret, then_rof, then_brk, then_cnt, ws_next, ws_brk, ws_cnt, ws_seq, ws_if, ws_ret, ws_rof, ws_drop, ws_set, ws_own, ws_asg, wo_TN, wo_TNil, wo_TCons, wo_TTup, ws_ap, ws_setIx, ws_for, for_nil, turn_nx, turn_cnt, turn_brk, turn_ret, turn_rof, wm_lc, end_ret, end_nx, end_rof, end_io, ownOf_own, valOf_val, frz_val, frz_own, cOwn_own, peek_val, peek_own, by_val, by_own, canSet_none, canSet_val, canSet_own, lstOf_list,
  List.getElem?_cons_zero, List.getElem?_cons_succ, List.set_cons_zero, List.set_cons_succ, List.length_cons, List.length_nil, wo_ite, wo_bind, ↓reduceIte, and_true, true_and, and_self, Bool.false_eq_true, Bool.not_true, Bool.not_false, decide_eq_true_eq, decide_true, decide_false, oneInt_int, twoInts_int,
  add_ii, add_ll, add_tt, add_ss, sub_ii, mul_ii, mulS_ii, mod_ii, fdiv_ii, neg_i, le_ii, gt_ii, ge_ii, eqT_ii, eqT_ss, eqT_bb, eqT_nn, ltT_ii, ltT_ss, wo_eqD, wo_neD, wo_ltD, wo_inD, wo_ninD, is_n, isnt_n, is_bb, isnt_bb, isN, bOf_b, iOf_i, tru_b, tru_n, tru_i, tru_l, tru_t, seq_l, seq_t, tup_l, tup_t, lst_l, lst_t, len_l, len_t, int_i, int_b, abs_i, max_ii, min_ii, ix_li, ix_ti, cut_l, cut_t, flat_i, flat_b, flat_s, ix0, ix1, ix2, mkTup, mkLst,
  ws_par3, three_c, ws_grp, empty_own, lOwnD_own, wm_lcW, wm_getD, wm_ind, ix3, ix4, ix_m2, ix_m1, ix_p2, ix_p1, wm_newD, ws_setK, wm_get, wm_ixK, wm_sortN, ws_ext, dOwn_own, lOwn_own, lsD_list, step_nx, step_cnt, step_brk, step_ret, step_rof, wm_reve, rev_l, rev_t, wm_opBL, repr_l, sort_l, sum_l, wm_enum, enum_l, enum_t, enumL_nil, wm_dic, wm_kvn, wm_kvc, seq_s, mulT_si, len_s, ord_c, str_i, ty_d, k_lb, k_li, k_ls, k_tb, k_ti, k_ts, k_db, k_di, k_ds, k_lt, k_tl,
  isi_1, tyOk_n, tyOk_b, tyOk_i, tyOk_s, tyOk_l, tyOk_t, ty_n, ty_b, ty_i, ty_s, ty_l, ty_t, k_nb, k_bb, k_ib, k_sb, k_ni, k_bi, k_ii, k_si, k_ns, k_bs, k_is, k_ss, k_ll, k_tt,
  Int.reduceNeg, Int.reducePow, Int.reduceLT, Int.reduceLE, Int.reduceAdd, Int.reduceSub, Int.reduceMul, Int.reduceToNat, Nat.reduceAdd, Nat.reduceLeDiff, Nat.reduceEqDiff, Int.reduceEq, reduceCtorEq, srt_wtsO hF hN (by omega), List.length_map]
    refine ⟨⟨by rw [hS.length_eq]; omega, by rcases h4 with rfl | ⟨d, rfl⟩ <;> rfl⟩, ?_⟩
    refine lc_filterA (fun m : Mv => kyD m.1) mvD (fun m => decide (m.2 ≠ 0)) _ (fun m hm => ?_) ?_
    · have hm' := hS.mem_iff.mp hm
      have a1 := at_wtsO hF hN hm'
      have a2 := at_rowsO hF hN hm'
      obtain ⟨⟨t, r⟩, w⟩ := m
      show Wo (gTN 4 _ [some (.val (.list (ms.map mvD))), some (.own false (.dict (rowsD (fnd ms)))), some (.own false (.dict (wtsD (fnd ms)))), o3, none]) _
      have ek : kyD (t, r) = .tuple [.int t, .tuple (r.map vo)] := rfl
      rw [ek] at a1 a2 ⊢
      simp only [backE, wipeE, wo_some, wo_none, wm_c, wm_var, wm_frz, wm_bin, wm_un, wm_tst, wm_tru, wm_truB, wm_chain, wm_and, wm_or, wm_not, wm_andV, wm_orV, wm_notV, wm_ifE, wm_nil, wm_cons, wm_app, wm_noP, wm_part, wm_sl, wm_pk, wm_io, wm_ix, wm_inB, wm_true, wm_seq, wm_rng1, wm_rng2,
  then_nx, then_ret, then_rof, then_brk, then_cnt, ws_next, ws_brk, ws_cnt, ws_seq, ws_if, ws_ret, ws_rof, ws_drop, ws_set, ws_own, ws_asg, wo_TN, wo_TNil, wo_TCons, wo_TTup, ws_ap, ws_setIx, ws_for, for_nil, turn_nx, turn_cnt, turn_brk, turn_ret, turn_rof, wm_lc, end_ret, end_nx, end_rof, end_io, ownOf_own, valOf_val, frz_val, frz_own, cOwn_own, peek_val, peek_own, by_val, by_own, canSet_none, canSet_val, canSet_own, lstOf_list,
  List.getElem?_cons_zero, List.getElem?_cons_succ, List.set_cons_zero, List.set_cons_succ, List.length_cons, List.length_nil, wo_ite, wo_bind, ↓reduceIte, and_true, true_and, and_self, Bool.false_eq_true, Bool.not_true, Bool.not_false, decide_eq_true_eq, decide_true, decide_false, oneInt_int, twoInts_int,
  add_ii, add_ll, add_tt, add_ss, sub_ii, mul_ii, mulS_ii, mod_ii, fdiv_ii, neg_i, le_ii, gt_ii, ge_ii, eqT_ii, eqT_ss, eqT_bb, eqT_nn, ltT_ii, ltT_ss, wo_eqD, wo_neD, wo_ltD, wo_inD, wo_ninD, is_n, isnt_n, is_bb, isnt_bb, isN, bOf_b, iOf_i, tru_b, tru_n, tru_i, tru_l, tru_t, seq_l, seq_t, tup_l, tup_t, lst_l, lst_t, len_l, len_t, int_i, int_b, abs_i, max_ii, min_ii, ix_li, ix_ti, cut_l, cut_t, flat_i, flat_b, flat_s, ix0, ix1, ix2, mkTup, mkLst,
  ws_par3, three_c, ws_grp, empty_own, lOwnD_own, wm_lcW, wm_getD, wm_ind, ix3, ix4, ix_m2, ix_m1, ix_p2, ix_p1, wm_newD, ws_setK, wm_get, wm_ixK, wm_sortN, ws_ext, dOwn_own, lOwn_own, lsD_list, step_nx, step_cnt, step_brk, step_ret, step_rof, wm_reve, rev_l, rev_t, wm_opBL, repr_l, sort_l, sum_l, wm_enum, enum_l, enum_t, enumL_nil, wm_dic, wm_kvn, wm_kvc, seq_s, mulT_si, len_s, ord_c, str_i, ty_d, k_lb, k_li, k_ls, k_tb, k_ti, k_ts, k_db, k_di, k_ds, k_lt, k_tl,
  isi_1, tyOk_n, tyOk_b, tyOk_i, tyOk_s, tyOk_l, tyOk_t, ty_n, ty_b, ty_i, ty_s, ty_l, ty_t, k_nb, k_bb, k_ib, k_sb, k_ni, k_bi, k_ii, k_si, k_ns, k_bs, k_is, k_ss, k_ll, k_tt,
  Int.reduceNeg, Int.reducePow, Int.reduceLT, Int.reduceLE, Int.reduceAdd, Int.reduceSub, Int.reduceMul, Int.reduceToNat, Nat.reduceAdd, Nat.reduceLeDiff, Nat.reduceEqDiff, Int.reduceEq, reduceCtorEq, a1, a2]
      refine ⟨?_, ?_, ?_⟩
      · by_cases z : w = 0 <;> simp [z]
      · intro _
        rfl
      · intro _
        trivial
    · rw [srt_flw h]
theorem eqK_eq {a b : Ky} (h : eqK a b = true) (ha : okK a) (hb : okK b) : a = b := (eqK_iff ha hb).mp h
theorem addF_set {m : Mv} : ∀ {F : List Mv} {i : Nat} {x : Mv}, (∀ j, j < i → ∀ y, F[j]? = some y → eqK y.1 m.1 = false) → F[i]? = some x → eqK x.1 m.1 = true → addF F m = F.set i (x.1, x.2 + m.2)
  | [], i, x, _, h, _ => by simp at h
  | y :: ys, 0, x, _, h, e => by
    have q := Option.some.inj h
    subst q
    unfold addF
    rw [if_pos e]
    rfl
  | y :: ys, i + 1, x, hj, h, e => by
    unfold addF
    rw [hj 0 (by omega) y rfl, if_neg (by decide), addF_set (i := i) (fun j hlt z hz => hj (j + 1) (by omega) z hz) h e]
    rfl
theorem sp_law_add {F : List Mv} {t w : Int} {r : List D} (h : okL F) (hk : okK (t, r)) (hl : F.length ≤ 1000000) : f__law_add (.list (F.map mvD)) [.int t, .tuple r, .int w] = some (.none, .list ((addF F ((t, r), w)).map mvD)) := by
  rw [← wo_eq]
  unfold f__law_add
  rw [wo_runIO]
  show Ws g__law_add [some (.own true (.list (F.map mvD))), some (.val (.int t)), some (.val (.tuple r)), some (.val (.int w)), none] _
  unfold g__law_add
  simp only [backE, wipeE, wo_some, wo_none, wm_c, wm_var, wm_frz, wm_bin, wm_un, wm_tst, wm_tru, wm_truB, wm_chain, wm_and, wm_or, wm_not, wm_andV, wm_orV, wm_notV, wm_ifE, wm_nil, wm_cons, wm_app, wm_noP, wm_part, wm_sl, wm_pk, wm_io, wm_ix, wm_inB, wm_true, wm_seq, wm_rng1, wm_rng2,
  then_nx, then_ret, then_rof, then_brk, then_cnt, ws_next, ws_brk, ws_cnt, ws_seq, ws_if, ws_ret, ws_rof, ws_drop, ws_set, ws_own, ws_asg, wo_TN, wo_TNil, wo_TCons, wo_TTup, ws_ap, ws_setIx, ws_for, for_nil, turn_nx, turn_cnt, turn_brk, turn_ret, turn_rof, wm_lc, end_ret, end_nx, end_rof, end_io, ownOf_own, valOf_val, frz_val, frz_own, cOwn_own, peek_val, peek_own, by_val, by_own, canSet_none, canSet_val, canSet_own, lstOf_list,
  List.getElem?_cons_zero, List.getElem?_cons_succ, List.set_cons_zero, List.set_cons_succ, List.length_cons, List.length_nil, wo_ite, wo_bind, ↓reduceIte, and_true, true_and, and_self, Bool.false_eq_true, Bool.not_true, Bool.not_false, decide_eq_true_eq, decide_true, decide_false, oneInt_int, twoInts_int,
  add_ii, add_ll, add_tt, add_ss, sub_ii, mul_ii, mulS_ii, mod_ii, fdiv_ii, neg_i, le_ii, gt_ii, ge_ii, eqT_ii, eqT_ss, eqT_bb, eqT_nn, ltT_ii, ltT_ss, wo_eqD, wo_neD, wo_ltD, wo_inD, wo_ninD, is_n, isnt_n, is_bb, isnt_bb, isN, bOf_b, iOf_i, tru_b, tru_n, tru_i, tru_l, tru_t, seq_l, seq_t, tup_l, tup_t, lst_l, lst_t, len_l, len_t, int_i, int_b, abs_i, max_ii, min_ii, ix_li, ix_ti, cut_l, cut_t, flat_i, flat_b, flat_s, ix0, ix1, ix2, mkTup, mkLst,
  ws_par3, three_c, ws_grp, empty_own, lOwnD_own, wm_lcW, wm_getD, wm_ind, ix3, ix4, ix_m2, ix_m1, ix_p2, ix_p1, wm_newD, ws_setK, wm_get, wm_ixK, wm_sortN, ws_ext, dOwn_own, lOwn_own, lsD_list, step_nx, step_cnt, step_brk, step_ret, step_rof, wm_reve, rev_l, rev_t, wm_opBL, repr_l, sort_l, sum_l, wm_enum, enum_l, enum_t, enumL_nil, wm_dic, wm_kvn, wm_kvc, seq_s, mulT_si, len_s, ord_c, str_i, ty_d, k_lb, k_li, k_ls, k_tb, k_ti, k_ts, k_db, k_di, k_ds, k_lt, k_tl,
  isi_1, tyOk_n, tyOk_b, tyOk_i, tyOk_s, tyOk_l, tyOk_t, ty_n, ty_b, ty_i, ty_s, ty_l, ty_t, k_nb, k_bb, k_ib, k_sb, k_ni, k_bi, k_ii, k_si, k_ns, k_bs, k_is, k_ss, k_ll, k_tt,
  Int.reduceNeg, Int.reducePow, Int.reduceLT, Int.reduceLE, Int.reduceAdd, Int.reduceSub, Int.reduceMul, Int.reduceToNat, Nat.reduceAdd, Nat.reduceLeDiff, Nat.reduceEqDiff, Int.reduceEq, reduceCtorEq, List.length_map]
  rw [if_pos (small_nat (by omega)), Int.toNat_natCast, rng_map]
  refine ws_forA (fun i : Nat => PyData.int i) (fun p ρ => ∃ (o4 : Option Cell), canSet (some o4) = some () ∧ (∀ j ∈ p, ∀ y, F[j]? = some y → eqK y.1 (t, r) = false) ∧ ρ = [some (.own true (.list (F.map mvD))), some (.val (.int t)), some (.val (.tuple r)), some (.val (.int w)), o4]) ⟨none, rfl, by simp, rfl⟩ ?_ ?_
  · rintro p i s ρ e ⟨o4, h4, hp, rfl⟩
    obtain ⟨e1, e2⟩ := rng_split e
    have e3 : F[i]? = some F[i] := List.getElem?_eq_getElem e2
    have e4 : ixA (F.map mvD) (i : Int) = some (mvD F[i]) := by rw [ixA_nat, List.getElem?_map, e3]; rfl
    have hkm : okK F[i].1 := h _ (List.getElem_mem e2)
    generalize F[i] = m at e3 e4 hkm
    obtain ⟨⟨t', r'⟩, w'⟩ := m
    have e4 : ixA (F.map mvD) (i : Int) = some (.tuple [.int t', .tuple r', .int w']) := e4
    have hal := sp_alike hkm.1 hk.1 hkm.2 hk.2
    have hfin : eqK (t', r') (t, r) = (decide (t' = t) && (!ltR r' r && !ltR r r')) := rfl
    have hp' : ∀ j, j < i → ∀ y, F[j]? = some y → eqK y.1 (t, r) = false := by
      intro j hj y hy
      refine hp j ?_ y hy
      have hr : List.range F.length = p ++ i :: s := e
      have : (List.range F.length)[j]? = some j := List.getElem?_range (by omega)
      rw [hr, List.getElem?_append_left (by omega)] at this
      exact List.mem_of_getElem? this
    by_cases ht : t' = t
    · by_cases ha : (!ltR r' r && !ltR r r') = true
      · have hq : eqK (t', r') (t, r) = true := by rw [hfin, ha]; simp [ht]
        have hset := addF_set (m := ((t, r), w)) hp' e3 hq
        have hix : ixS F.length (i : Int) = some i := by
          unfold ixS
          rw [if_pos (by omega), if_pos (by omega)]
          rfl
        simp only [backE, wipeE, wo_some, wo_none, wm_c, wm_var, wm_frz, wm_bin, wm_un, wm_tst, wm_tru, wm_truB, wm_chain, wm_and, wm_or, wm_not, wm_andV, wm_orV, wm_notV, wm_ifE, wm_nil, wm_cons, wm_app, wm_noP, wm_part, wm_sl, wm_pk, wm_io, wm_ix, wm_inB, wm_true, wm_seq, wm_rng1, wm_rng2,
  then_nx, then_ret, then_rof, then_brk, then_cnt, ws_next, ws_brk, ws_cnt, ws_seq, ws_if, ws_ret, ws_rof, ws_drop, ws_set, ws_own, ws_asg, wo_TN, wo_TNil, wo_TCons, wo_TTup, ws_ap, ws_setIx, ws_for, for_nil, turn_nx, turn_cnt, turn_brk, turn_ret, turn_rof, wm_lc, end_ret, end_nx, end_rof, end_io, ownOf_own, valOf_val, frz_val, frz_own, cOwn_own, peek_val, peek_own, by_val, by_own, canSet_none, canSet_val, canSet_own, lstOf_list,
  List.getElem?_cons_zero, List.getElem?_cons_succ, List.set_cons_zero, List.set_cons_succ, List.length_cons, List.length_nil, wo_ite, wo_bind, ↓reduceIte, and_true, true_and, and_self, Bool.false_eq_true, Bool.not_true, Bool.not_false, decide_eq_true_eq, decide_true, decide_false, oneInt_int, twoInts_int,
  add_ii, add_ll, add_tt, add_ss, sub_ii, mul_ii, mulS_ii, mod_ii, fdiv_ii, neg_i, le_ii, gt_ii, ge_ii, eqT_ii, eqT_ss, eqT_bb, eqT_nn, ltT_ii, ltT_ss, wo_eqD, wo_neD, wo_ltD, wo_inD, wo_ninD, is_n, isnt_n, is_bb, isnt_bb, isN, bOf_b, iOf_i, tru_b, tru_n, tru_i, tru_l, tru_t, seq_l, seq_t, tup_l, tup_t, lst_l, lst_t, len_l, len_t, int_i, int_b, abs_i, max_ii, min_ii, ix_li, ix_ti, cut_l, cut_t, flat_i, flat_b, flat_s, ix0, ix1, ix2, mkTup, mkLst,
  ws_par3, three_c, ws_grp, empty_own, lOwnD_own, wm_lcW, wm_getD, wm_ind, ix3, ix4, ix_m2, ix_m1, ix_p2, ix_p1, wm_newD, ws_setK, wm_get, wm_ixK, wm_sortN, ws_ext, dOwn_own, lOwn_own, lsD_list, step_nx, step_cnt, step_brk, step_ret, step_rof, wm_reve, rev_l, rev_t, wm_opBL, repr_l, sort_l, sum_l, wm_enum, enum_l, enum_t, enumL_nil, wm_dic, wm_kvn, wm_kvc, seq_s, mulT_si, len_s, ord_c, str_i, ty_d, k_lb, k_li, k_ls, k_tb, k_ti, k_ts, k_db, k_di, k_ds, k_lt, k_tl,
  isi_1, tyOk_n, tyOk_b, tyOk_i, tyOk_s, tyOk_l, tyOk_t, ty_n, ty_b, ty_i, ty_s, ty_l, ty_t, k_nb, k_bb, k_ib, k_sb, k_ni, k_bi, k_ii, k_si, k_ns, k_bs, k_is, k_ss, k_ll, k_tt,
  Int.reduceNeg, Int.reducePow, Int.reduceLT, Int.reduceLE, Int.reduceAdd, Int.reduceSub, Int.reduceMul, Int.reduceToNat, Nat.reduceAdd, Nat.reduceLeDiff, Nat.reduceEqDiff, Int.reduceEq, reduceCtorEq, h4, e4, hal, ht, ha, hix, List.length_map]
        rw [hset, List.map_set]
        have := eqK_eq hq hkm hk
        rw [show t' = t from ht]
        rfl
      · have hq : eqK (t', r') (t, r) = false := by rw [hfin, (by simpa using ha : (!ltR r' r && !ltR r r') = false), Bool.and_false]
        simp only [backE, wipeE, wo_some, wo_none, wm_c, wm_var, wm_frz, wm_bin, wm_un, wm_tst, wm_tru, wm_truB, wm_chain, wm_and, wm_or, wm_not, wm_andV, wm_orV, wm_notV, wm_ifE, wm_nil, wm_cons, wm_app, wm_noP, wm_part, wm_sl, wm_pk, wm_io, wm_ix, wm_inB, wm_true, wm_seq, wm_rng1, wm_rng2,
  then_nx, then_ret, then_rof, then_brk, then_cnt, ws_next, ws_brk, ws_cnt, ws_seq, ws_if, ws_ret, ws_rof, ws_drop, ws_set, ws_own, ws_asg, wo_TN, wo_TNil, wo_TCons, wo_TTup, ws_ap, ws_setIx, ws_for, for_nil, turn_nx, turn_cnt, turn_brk, turn_ret, turn_rof, wm_lc, end_ret, end_nx, end_rof, end_io, ownOf_own, valOf_val, frz_val, frz_own, cOwn_own, peek_val, peek_own, by_val, by_own, canSet_none, canSet_val, canSet_own, lstOf_list,
  List.getElem?_cons_zero, List.getElem?_cons_succ, List.set_cons_zero, List.set_cons_succ, List.length_cons, List.length_nil, wo_ite, wo_bind, ↓reduceIte, and_true, true_and, and_self, Bool.false_eq_true, Bool.not_true, Bool.not_false, decide_eq_true_eq, decide_true, decide_false, oneInt_int, twoInts_int,
  add_ii, add_ll, add_tt, add_ss, sub_ii, mul_ii, mulS_ii, mod_ii, fdiv_ii, neg_i, le_ii, gt_ii, ge_ii, eqT_ii, eqT_ss, eqT_bb, eqT_nn, ltT_ii, ltT_ss, wo_eqD, wo_neD, wo_ltD, wo_inD, wo_ninD, is_n, isnt_n, is_bb, isnt_bb, isN, bOf_b, iOf_i, tru_b, tru_n, tru_i, tru_l, tru_t, seq_l, seq_t, tup_l, tup_t, lst_l, lst_t, len_l, len_t, int_i, int_b, abs_i, max_ii, min_ii, ix_li, ix_ti, cut_l, cut_t, flat_i, flat_b, flat_s, ix0, ix1, ix2, mkTup, mkLst,
  ws_par3, three_c, ws_grp, empty_own, lOwnD_own, wm_lcW, wm_getD, wm_ind, ix3, ix4, ix_m2, ix_m1, ix_p2, ix_p1, wm_newD, ws_setK, wm_get, wm_ixK, wm_sortN, ws_ext, dOwn_own, lOwn_own, lsD_list, step_nx, step_cnt, step_brk, step_ret, step_rof, wm_reve, rev_l, rev_t, wm_opBL, repr_l, sort_l, sum_l, wm_enum, enum_l, enum_t, enumL_nil, wm_dic, wm_kvn, wm_kvc, seq_s, mulT_si, len_s, ord_c, str_i, ty_d, k_lb, k_li, k_ls, k_tb, k_ti, k_ts, k_db, k_di, k_ds, k_lt, k_tl,
  isi_1, tyOk_n, tyOk_b, tyOk_i, tyOk_s, tyOk_l, tyOk_t, ty_n, ty_b, ty_i, ty_s, ty_l, ty_t, k_nb, k_bb, k_ib, k_sb, k_ni, k_bi, k_ii, k_si, k_ns, k_bs, k_is, k_ss, k_ll, k_tt,
  Int.reduceNeg, Int.reducePow, Int.reduceLT, Int.reduceLE, Int.reduceAdd, Int.reduceSub, Int.reduceMul, Int.reduceToNat, Nat.reduceAdd, Nat.reduceLeDiff, Nat.reduceEqDiff, Int.reduceEq, reduceCtorEq, h4, e4, hal, ht, ha]
        refine ⟨_, rfl, fun j hj y hy => ?_, rfl⟩
        rcases List.mem_append.mp hj with hj | hj
        · exact hp j hj y hy
        · rw [List.mem_singleton.mp hj, e3] at hy
          cases hy
          exact hq
    · have hq : eqK (t', r') (t, r) = false := by rw [hfin]; simp [ht]
      simp only [backE, wipeE, wo_some, wo_none, wm_c, wm_var, wm_frz, wm_bin, wm_un, wm_tst, wm_tru, wm_truB, wm_chain, wm_and, wm_or, wm_not, wm_andV, wm_orV, wm_notV, wm_ifE, wm_nil, wm_cons, wm_app, wm_noP, wm_part, wm_sl, wm_pk, wm_io, wm_ix, wm_inB, wm_true, wm_seq, wm_rng1, wm_rng2,
  then_nx, then_ret, then_rof, then_brk, then_cnt, ws_next, ws_brk, ws_cnt, ws_seq, ws_if, ws_ret, ws_rof, ws_drop, ws_set, ws_own, ws_asg, wo_TN, wo_TNil, wo_TCons, wo_TTup, ws_ap, ws_setIx, ws_for, for_nil, turn_nx, turn_cnt, turn_brk, turn_ret, turn_rof, wm_lc, end_ret, end_nx, end_rof, end_io, ownOf_own, valOf_val, frz_val, frz_own, cOwn_own, peek_val, peek_own, by_val, by_own, canSet_none, canSet_val, canSet_own, lstOf_list,
  List.getElem?_cons_zero, List.getElem?_cons_succ, List.set_cons_zero, List.set_cons_succ, List.length_cons, List.length_nil, wo_ite, wo_bind, ↓reduceIte, and_true, true_and, and_self, Bool.false_eq_true, Bool.not_true, Bool.not_false, decide_eq_true_eq, decide_true, decide_false, oneInt_int, twoInts_int,
  add_ii, add_ll, add_tt, add_ss, sub_ii, mul_ii, mulS_ii, mod_ii, fdiv_ii, neg_i, le_ii, gt_ii, ge_ii, eqT_ii, eqT_ss, eqT_bb, eqT_nn, ltT_ii, ltT_ss, wo_eqD, wo_neD, wo_ltD, wo_inD, wo_ninD, is_n, isnt_n, is_bb, isnt_bb, isN, bOf_b, iOf_i, tru_b, tru_n, tru_i, tru_l, tru_t, seq_l, seq_t, tup_l, tup_t, lst_l, lst_t, len_l, len_t, int_i, int_b, abs_i, max_ii, min_ii, ix_li, ix_ti, cut_l, cut_t, flat_i, flat_b, flat_s, ix0, ix1, ix2, mkTup, mkLst,
  ws_par3, three_c, ws_grp, empty_own, lOwnD_own, wm_lcW, wm_getD, wm_ind, ix3, ix4, ix_m2, ix_m1, ix_p2, ix_p1, wm_newD, ws_setK, wm_get, wm_ixK, wm_sortN, ws_ext, dOwn_own, lOwn_own, lsD_list, step_nx, step_cnt, step_brk, step_ret, step_rof, wm_reve, rev_l, rev_t, wm_opBL, repr_l, sort_l, sum_l, wm_enum, enum_l, enum_t, enumL_nil, wm_dic, wm_kvn, wm_kvc, seq_s, mulT_si, len_s, ord_c, str_i, ty_d, k_lb, k_li, k_ls, k_tb, k_ti, k_ts, k_db, k_di, k_ds, k_lt, k_tl,
  isi_1, tyOk_n, tyOk_b, tyOk_i, tyOk_s, tyOk_l, tyOk_t, ty_n, ty_b, ty_i, ty_s, ty_l, ty_t, k_nb, k_bb, k_ib, k_sb, k_ni, k_bi, k_ii, k_si, k_ns, k_bs, k_is, k_ss, k_ll, k_tt,
  Int.reduceNeg, Int.reducePow, Int.reduceLT, Int.reduceLE, Int.reduceAdd, Int.reduceSub, Int.reduceMul, Int.reduceToNat, Nat.reduceAdd, Nat.reduceLeDiff, Nat.reduceEqDiff, Int.reduceEq, reduceCtorEq, h4, e4, hal, ht]
      refine ⟨_, rfl, fun j hj y hy => ?_, rfl⟩
      rcases List.mem_append.mp hj with hj | hj
      · exact hp j hj y hy
      · rw [List.mem_singleton.mp hj, e3] at hy
        cases hy
        exact hq
  · rintro ρ' ⟨o4, h4, hp, rfl⟩
    simp only [backE, wipeE, wo_some, wo_none, wm_c, wm_var, wm_frz, wm_bin, wm_un, wm_tst, wm_tru, wm_truB, wm_chain, wm_and, wm_or, wm_not, wm_andV, wm_orV, wm_notV, wm_ifE, wm_nil, wm_cons, wm_app, wm_noP, wm_part, wm_sl, wm_pk, wm_io, wm_ix, wm_inB, wm_true, wm_seq, wm_rng1, wm_rng2,
  then_nx, then_ret, then_rof, then_brk, then_cnt, ws_next, ws_brk, ws_cnt, ws_seq, ws_if, ws_ret, ws_rof, ws_drop, ws_set, ws_own, ws_asg, wo_TN, wo_TNil, wo_TCons, wo_TTup, ws_ap, ws_setIx, ws_for, for_nil, turn_nx, turn_cnt, turn_brk, turn_ret, turn_rof, wm_lc, end_ret, end_nx, end_rof, end_io, ownOf_own, valOf_val, frz_val, frz_own, cOwn_own, peek_val, peek_own, by_val, by_own, canSet_none, canSet_val, canSet_own, lstOf_list,
  List.getElem?_cons_zero, List.getElem?_cons_succ, List.set_cons_zero, List.set_cons_succ, List.length_cons, List.length_nil, wo_ite, wo_bind, ↓reduceIte, and_true, true_and, and_self, Bool.false_eq_true, Bool.not_true, Bool.not_false, decide_eq_true_eq, decide_true, decide_false, oneInt_int, twoInts_int,
  add_ii, add_ll, add_tt, add_ss, sub_ii, mul_ii, mulS_ii, mod_ii, fdiv_ii, neg_i, le_ii, gt_ii, ge_ii, eqT_ii, eqT_ss, eqT_bb, eqT_nn, ltT_ii, ltT_ss, wo_eqD, wo_neD, wo_ltD, wo_inD, wo_ninD, is_n, isnt_n, is_bb, isnt_bb, isN, bOf_b, iOf_i, tru_b, tru_n, tru_i, tru_l, tru_t, seq_l, seq_t, tup_l, tup_t, lst_l, lst_t, len_l, len_t, int_i, int_b, abs_i, max_ii, min_ii, ix_li, ix_ti, cut_l, cut_t, flat_i, flat_b, flat_s, ix0, ix1, ix2, mkTup, mkLst,
  ws_par3, three_c, ws_grp, empty_own, lOwnD_own, wm_lcW, wm_getD, wm_ind, ix3, ix4, ix_m2, ix_m1, ix_p2, ix_p1, wm_newD, ws_setK, wm_get, wm_ixK, wm_sortN, ws_ext, dOwn_own, lOwn_own, lsD_list, step_nx, step_cnt, step_brk, step_ret, step_rof, wm_reve, rev_l, rev_t, wm_opBL, repr_l, sort_l, sum_l, wm_enum, enum_l, enum_t, enumL_nil, wm_dic, wm_kvn, wm_kvc, seq_s, mulT_si, len_s, ord_c, str_i, ty_d, k_lb, k_li, k_ls, k_tb, k_ti, k_ts, k_db, k_di, k_ds, k_lt, k_tl,
  isi_1, tyOk_n, tyOk_b, tyOk_i, tyOk_s, tyOk_l, tyOk_t, ty_n, ty_b, ty_i, ty_s, ty_l, ty_t, k_nb, k_bb, k_ib, k_sb, k_ni, k_bi, k_ii, k_si, k_ns, k_bs, k_is, k_ss, k_ll, k_tt,
  Int.reduceNeg, Int.reducePow, Int.reduceLT, Int.reduceLE, Int.reduceAdd, Int.reduceSub, Int.reduceMul, Int.reduceToNat, Nat.reduceAdd, Nat.reduceLeDiff, Nat.reduceEqDiff, Int.reduceEq, reduceCtorEq, List.length_map]
    refine ⟨by omega, ?_⟩
    rw [addF_new]
    · rw [List.map_append]
      rfl
    · rw [List.any_eq_false]
      intro x hx
      obtain ⟨j, hj, ej⟩ := List.getElem_of_mem hx
      have := hp j (List.mem_range.mpr hj) x (by rw [List.getElem?_eq_getElem hj, ej])
      rw [this]
      decide
theorem sp_move_before {a b : Mv} (ha : okK a.1) (hb : okK b.1) : f__law_move_before [mvD a, mvD b] = some (.bool (kLt a.1 b.1)) := by
  obtain ⟨⟨t, r⟩, w⟩ := a
  obtain ⟨⟨t', r'⟩, w'⟩ := b
  rw [← wo_eq]
  unfold f__law_move_before
  rw [wo_runV]
  show Ws g__law_move_before [some (.val (.tuple [.int t, .tuple r, .int w])), some (.val (.tuple [.int t', .tuple r', .int w']))] _
  unfold g__law_move_before kLt
  have hrb := sp_row_before ha.1 hb.1 ha.2 hb.2
  by_cases h : t = t'
  · simp only [backE, wipeE, wo_some, wo_none, wm_c, wm_var, wm_frz, wm_bin, wm_un, wm_tst, wm_tru, wm_truB, wm_chain, wm_and, wm_or, wm_not, wm_andV, wm_orV, wm_notV, wm_ifE, wm_nil, wm_cons, wm_app, wm_noP, wm_part, wm_sl, wm_pk, wm_io, wm_ix, wm_inB, wm_true, wm_seq, wm_rng1, wm_rng2,
  then_nx, then_ret, then_rof, then_brk, then_cnt, ws_next, ws_brk, ws_cnt, ws_seq, ws_if, ws_ret, ws_rof, ws_drop, ws_set, ws_own, ws_asg, wo_TN, wo_TNil, wo_TCons, wo_TTup, ws_ap, ws_setIx, ws_for, for_nil, turn_nx, turn_cnt, turn_brk, turn_ret, turn_rof, wm_lc, end_ret, end_nx, end_rof, end_io, ownOf_own, valOf_val, frz_val, frz_own, cOwn_own, peek_val, peek_own, by_val, by_own, canSet_none, canSet_val, canSet_own, lstOf_list,
  List.getElem?_cons_zero, List.getElem?_cons_succ, List.set_cons_zero, List.set_cons_succ, List.length_cons, List.length_nil, wo_ite, wo_bind, ↓reduceIte, and_true, true_and, and_self, Bool.false_eq_true, Bool.not_true, Bool.not_false, decide_eq_true_eq, decide_true, decide_false, oneInt_int, twoInts_int,
  add_ii, add_ll, add_tt, add_ss, sub_ii, mul_ii, mulS_ii, mod_ii, fdiv_ii, neg_i, le_ii, gt_ii, ge_ii, eqT_ii, eqT_ss, eqT_bb, eqT_nn, ltT_ii, ltT_ss, wo_eqD, wo_neD, wo_ltD, wo_inD, wo_ninD, is_n, isnt_n, is_bb, isnt_bb, isN, bOf_b, iOf_i, tru_b, tru_n, tru_i, tru_l, tru_t, seq_l, seq_t, tup_l, tup_t, lst_l, lst_t, len_l, len_t, int_i, int_b, abs_i, max_ii, min_ii, ix_li, ix_ti, cut_l, cut_t, flat_i, flat_b, flat_s, ix0, ix1, ix2, mkTup, mkLst,
  ws_par3, three_c, ws_grp, empty_own, lOwnD_own, wm_lcW, wm_getD, wm_ind, ix3, ix4, ix_m2, ix_m1, ix_p2, ix_p1, wm_newD, ws_setK, wm_get, wm_ixK, wm_sortN, ws_ext, dOwn_own, lOwn_own, lsD_list, step_nx, step_cnt, step_brk, step_ret, step_rof, wm_reve, rev_l, rev_t, wm_opBL, repr_l, sort_l, sum_l, wm_enum, enum_l, enum_t, enumL_nil, wm_dic, wm_kvn, wm_kvc, seq_s, mulT_si, len_s, ord_c, str_i, ty_d, k_lb, k_li, k_ls, k_tb, k_ti, k_ts, k_db, k_di, k_ds, k_lt, k_tl,
  isi_1, tyOk_n, tyOk_b, tyOk_i, tyOk_s, tyOk_l, tyOk_t, ty_n, ty_b, ty_i, ty_s, ty_l, ty_t, k_nb, k_bb, k_ib, k_sb, k_ni, k_bi, k_ii, k_si, k_ns, k_bs, k_is, k_ss, k_ll, k_tt,
  Int.reduceNeg, Int.reducePow, Int.reduceLT, Int.reduceLE, Int.reduceAdd, Int.reduceSub, Int.reduceMul, Int.reduceToNat, Nat.reduceAdd, Nat.reduceLeDiff, Nat.reduceEqDiff, Int.reduceEq, reduceCtorEq, h, hrb]
  · simp only [backE, wipeE, wo_some, wo_none, wm_c, wm_var, wm_frz, wm_bin, wm_un, wm_tst, wm_tru, wm_truB, wm_chain, wm_and, wm_or, wm_not, wm_andV, wm_orV, wm_notV, wm_ifE, wm_nil, wm_cons, wm_app, wm_noP, wm_part, wm_sl, wm_pk, wm_io, wm_ix, wm_inB, wm_true, wm_seq, wm_rng1, wm_rng2,
  then_nx, then_ret, then_rof, then_brk, then_cnt, ws_next, ws_brk, ws_cnt, ws_seq, ws_if, ws_ret, ws_rof, ws_drop, ws_set, ws_own, ws_asg, wo_TN, wo_TNil, wo_TCons, wo_TTup, ws_ap, ws_setIx, ws_for, for_nil, turn_nx, turn_cnt, turn_brk, turn_ret, turn_rof, wm_lc, end_ret, end_nx, end_rof, end_io, ownOf_own, valOf_val, frz_val, frz_own, cOwn_own, peek_val, peek_own, by_val, by_own, canSet_none, canSet_val, canSet_own, lstOf_list,
  List.getElem?_cons_zero, List.getElem?_cons_succ, List.set_cons_zero, List.set_cons_succ, List.length_cons, List.length_nil, wo_ite, wo_bind, ↓reduceIte, and_true, true_and, and_self, Bool.false_eq_true, Bool.not_true, Bool.not_false, decide_eq_true_eq, decide_true, decide_false, oneInt_int, twoInts_int,
  add_ii, add_ll, add_tt, add_ss, sub_ii, mul_ii, mulS_ii, mod_ii, fdiv_ii, neg_i, le_ii, gt_ii, ge_ii, eqT_ii, eqT_ss, eqT_bb, eqT_nn, ltT_ii, ltT_ss, wo_eqD, wo_neD, wo_ltD, wo_inD, wo_ninD, is_n, isnt_n, is_bb, isnt_bb, isN, bOf_b, iOf_i, tru_b, tru_n, tru_i, tru_l, tru_t, seq_l, seq_t, tup_l, tup_t, lst_l, lst_t, len_l, len_t, int_i, int_b, abs_i, max_ii, min_ii, ix_li, ix_ti, cut_l, cut_t, flat_i, flat_b, flat_s, ix0, ix1, ix2, mkTup, mkLst,
  ws_par3, three_c, ws_grp, empty_own, lOwnD_own, wm_lcW, wm_getD, wm_ind, ix3, ix4, ix_m2, ix_m1, ix_p2, ix_p1, wm_newD, ws_setK, wm_get, wm_ixK, wm_sortN, ws_ext, dOwn_own, lOwn_own, lsD_list, step_nx, step_cnt, step_brk, step_ret, step_rof, wm_reve, rev_l, rev_t, wm_opBL, repr_l, sort_l, sum_l, wm_enum, enum_l, enum_t, enumL_nil, wm_dic, wm_kvn, wm_kvc, seq_s, mulT_si, len_s, ord_c, str_i, ty_d, k_lb, k_li, k_ls, k_tb, k_ti, k_ts, k_db, k_di, k_ds, k_lt, k_tl,
  isi_1, tyOk_n, tyOk_b, tyOk_i, tyOk_s, tyOk_l, tyOk_t, ty_n, ty_b, ty_i, ty_s, ty_l, ty_t, k_nb, k_bb, k_ib, k_sb, k_ni, k_bi, k_ii, k_si, k_ns, k_bs, k_is, k_ss, k_ll, k_tt,
  Int.reduceNeg, Int.reducePow, Int.reduceLT, Int.reduceLE, Int.reduceAdd, Int.reduceSub, Int.reduceMul, Int.reduceToNat, Nat.reduceAdd, Nat.reduceLeDiff, Nat.reduceEqDiff, Int.reduceEq, reduceCtorEq, h, hrb]
theorem sp_law_flow {ms : List Mv} (h : okL ms) (hl : ms.length ≤ 1000000) : f__law_flow [.list (ms.map mvD)] = some (.list ((flw ms).map mvD)) := by
  rw [← wo_eq]
  unfold f__law_flow
  rw [wo_runV]
  show Ws g__law_flow [some (.val (.list (ms.map mvD))), none, none, none, none, none] _
  unfold g__law_flow
  simp only [backE, wipeE, wo_some, wo_none, wm_c, wm_var, wm_frz, wm_bin, wm_un, wm_tst, wm_tru, wm_truB, wm_chain, wm_and, wm_or, wm_not, wm_andV, wm_orV, wm_notV, wm_ifE, wm_nil, wm_cons, wm_app, wm_noP, wm_part, wm_sl, wm_pk, wm_io, wm_ix, wm_inB, wm_true, wm_seq, wm_rng1, wm_rng2,
  then_nx, then_ret, then_rof, then_brk, then_cnt, ws_next, ws_brk, ws_cnt, ws_seq, ws_if, ws_ret, ws_rof, ws_drop, ws_set, ws_own, ws_asg, wo_TN, wo_TNil, wo_TCons, wo_TTup, ws_ap, ws_setIx, ws_for, for_nil, turn_nx, turn_cnt, turn_brk, turn_ret, turn_rof, wm_lc, end_ret, end_nx, end_rof, end_io, ownOf_own, valOf_val, frz_val, frz_own, cOwn_own, peek_val, peek_own, by_val, by_own, canSet_none, canSet_val, canSet_own, lstOf_list,
  List.getElem?_cons_zero, List.getElem?_cons_succ, List.set_cons_zero, List.set_cons_succ, List.length_cons, List.length_nil, wo_ite, wo_bind, ↓reduceIte, and_true, true_and, and_self, Bool.false_eq_true, Bool.not_true, Bool.not_false, decide_eq_true_eq, decide_true, decide_false, oneInt_int, twoInts_int,
  add_ii, add_ll, add_tt, add_ss, sub_ii, mul_ii, mulS_ii, mod_ii, fdiv_ii, neg_i, le_ii, gt_ii, ge_ii, eqT_ii, eqT_ss, eqT_bb, eqT_nn, ltT_ii, ltT_ss, wo_eqD, wo_neD, wo_ltD, wo_inD, wo_ninD, is_n, isnt_n, is_bb, isnt_bb, isN, bOf_b, iOf_i, tru_b, tru_n, tru_i, tru_l, tru_t, seq_l, seq_t, tup_l, tup_t, lst_l, lst_t, len_l, len_t, int_i, int_b, abs_i, max_ii, min_ii, ix_li, ix_ti, cut_l, cut_t, flat_i, flat_b, flat_s, ix0, ix1, ix2, mkTup, mkLst,
  ws_par3, three_c, ws_grp, empty_own, lOwnD_own, wm_lcW, wm_getD, wm_ind, ix3, ix4, ix_m2, ix_m1, ix_p2, ix_p1, wm_newD, ws_setK, wm_get, wm_ixK, wm_sortN, ws_ext, dOwn_own, lOwn_own, lsD_list, step_nx, step_cnt, step_brk, step_ret, step_rof, wm_reve, rev_l, rev_t, wm_opBL, repr_l, sort_l, sum_l, wm_enum, enum_l, enum_t, enumL_nil, wm_dic, wm_kvn, wm_kvc, seq_s, mulT_si, len_s, ord_c, str_i, ty_d, k_lb, k_li, k_ls, k_tb, k_ti, k_ts, k_db, k_di, k_ds, k_lt, k_tl,
  isi_1, tyOk_n, tyOk_b, tyOk_i, tyOk_s, tyOk_l, tyOk_t, ty_n, ty_b, ty_i, ty_s, ty_l, ty_t, k_nb, k_bb, k_ib, k_sb, k_ni, k_bi, k_ii, k_si, k_ns, k_bs, k_is, k_ss, k_ll, k_tt,
  Int.reduceNeg, Int.reducePow, Int.reduceLT, Int.reduceLE, Int.reduceAdd, Int.reduceSub, Int.reduceMul, Int.reduceToNat, Nat.reduceAdd, Nat.reduceLeDiff, Nat.reduceEqDiff, Int.reduceEq, reduceCtorEq]
  refine ws_forA mvD (fun p ρ => ∃ (o2 : Option Cell), canSet (some o2) = some () ∧ ρ = [some (.val (.list (ms.map mvD))), some (.own false (.list ((fnd p).map mvD))), o2, none, none, none]) ⟨none, rfl, rfl⟩ ?_ ?_
  · rintro p ⟨⟨t, r⟩, w⟩ s ρ e ⟨o2, h2, rfl⟩
    have hp : okL p := fun m hm => h m (by rw [e]; exact List.mem_append_left _ hm)
    have hk : okK (t, r) := h ((t, r), w) (by rw [e]; simp)
    have hpl : (fnd p).length ≤ 1000000 := by
      have := congrArg List.length e
      rw [List.length_append, List.length_cons] at this
      have := fnd_len p
      omega
    have e2 : fnd (p ++ [((t, r), w)]) = addF (fnd p) ((t, r), w) := by unfold fnd; rw [List.foldl_append]; rfl
    simp only [backE, wipeE, wo_some, wo_none, wm_c, wm_var, wm_frz, wm_bin, wm_un, wm_tst, wm_tru, wm_truB, wm_chain, wm_and, wm_or, wm_not, wm_andV, wm_orV, wm_notV, wm_ifE, wm_nil, wm_cons, wm_app, wm_noP, wm_part, wm_sl, wm_pk, wm_io, wm_ix, wm_inB, wm_true, wm_seq, wm_rng1, wm_rng2,
  then_nx, then_ret, then_rof, then_brk, then_cnt, ws_next, ws_brk, ws_cnt, ws_seq, ws_if, ws_ret, ws_rof, ws_drop, ws_set, ws_own, ws_asg, wo_TN, wo_TNil, wo_TCons, wo_TTup, ws_ap, ws_setIx, ws_for, for_nil, turn_nx, turn_cnt, turn_brk, turn_ret, turn_rof, wm_lc, end_ret, end_nx, end_rof, end_io, ownOf_own, valOf_val, frz_val, frz_own, cOwn_own, peek_val, peek_own, by_val, by_own, canSet_none, canSet_val, canSet_own, lstOf_list,
  List.getElem?_cons_zero, List.getElem?_cons_succ, List.set_cons_zero, List.set_cons_succ, List.length_cons, List.length_nil, wo_ite, wo_bind, ↓reduceIte, and_true, true_and, and_self, Bool.false_eq_true, Bool.not_true, Bool.not_false, decide_eq_true_eq, decide_true, decide_false, oneInt_int, twoInts_int,
  add_ii, add_ll, add_tt, add_ss, sub_ii, mul_ii, mulS_ii, mod_ii, fdiv_ii, neg_i, le_ii, gt_ii, ge_ii, eqT_ii, eqT_ss, eqT_bb, eqT_nn, ltT_ii, ltT_ss, wo_eqD, wo_neD, wo_ltD, wo_inD, wo_ninD, is_n, isnt_n, is_bb, isnt_bb, isN, bOf_b, iOf_i, tru_b, tru_n, tru_i, tru_l, tru_t, seq_l, seq_t, tup_l, tup_t, lst_l, lst_t, len_l, len_t, int_i, int_b, abs_i, max_ii, min_ii, ix_li, ix_ti, cut_l, cut_t, flat_i, flat_b, flat_s, ix0, ix1, ix2, mkTup, mkLst,
  ws_par3, three_c, ws_grp, empty_own, lOwnD_own, wm_lcW, wm_getD, wm_ind, ix3, ix4, ix_m2, ix_m1, ix_p2, ix_p1, wm_newD, ws_setK, wm_get, wm_ixK, wm_sortN, ws_ext, dOwn_own, lOwn_own, lsD_list, step_nx, step_cnt, step_brk, step_ret, step_rof, wm_reve, rev_l, rev_t, wm_opBL, repr_l, sort_l, sum_l, wm_enum, enum_l, enum_t, enumL_nil, wm_dic, wm_kvn, wm_kvc, seq_s, mulT_si, len_s, ord_c, str_i, ty_d, k_lb, k_li, k_ls, k_tb, k_ti, k_ts, k_db, k_di, k_ds, k_lt, k_tl,
  isi_1, tyOk_n, tyOk_b, tyOk_i, tyOk_s, tyOk_l, tyOk_t, ty_n, ty_b, ty_i, ty_s, ty_l, ty_t, k_nb, k_bb, k_ib, k_sb, k_ni, k_bi, k_ii, k_si, k_ns, k_bs, k_is, k_ss, k_ll, k_tt,
  Int.reduceNeg, Int.reducePow, Int.reduceLT, Int.reduceLE, Int.reduceAdd, Int.reduceSub, Int.reduceMul, Int.reduceToNat, Nat.reduceAdd, Nat.reduceLeDiff, Nat.reduceEqDiff, Int.reduceEq, reduceCtorEq, mvD, h2, sp_law_add (w := w) (fnd_ok hp) hk hpl]
    exact ⟨_, rfl, by rw [e2]⟩
  · rintro ρ' ⟨o2, h2, rfl⟩
    have hF := fnd_ok h
    have hN := fnd_nd h
    have hfl := fnd_len ms
    have ef : flw ms = srt ((fnd ms).filter fun m => decide (m.2 ≠ 0)) := rfl
    rw [ef]
    simp only [backE, wipeE, wo_some, wo_none, wm_c, wm_var, wm_frz, wm_bin, wm_un, wm_tst, wm_tru, wm_truB, wm_chain, wm_and, wm_or, wm_not, wm_andV, wm_orV, wm_notV, wm_ifE, wm_nil, wm_cons, wm_app, wm_noP, wm_part, wm_sl, wm_pk, wm_io, wm_ix, wm_inB, wm_true, wm_seq, wm_rng1, wm_rng2,
  then_nx, then_ret, then_rof, then_brk, then_cnt, ws_next, ws_brk, ws_cnt, ws_seq, ws_if, ws_ret, ws_rof, ws_drop, ws_set, ws_own, ws_asg, wo_TN, wo_TNil, wo_TCons, wo_TTup, ws_ap, ws_setIx, ws_for, for_nil, turn_nx, turn_cnt, turn_brk, turn_ret, turn_rof, wm_lc, end_ret, end_nx, end_rof, end_io, ownOf_own, valOf_val, frz_val, frz_own, cOwn_own, peek_val, peek_own, by_val, by_own, canSet_none, canSet_val, canSet_own, lstOf_list,
  List.getElem?_cons_zero, List.getElem?_cons_succ, List.set_cons_zero, List.set_cons_succ, List.length_cons, List.length_nil, wo_ite, wo_bind, ↓reduceIte, and_true, true_and, and_self, Bool.false_eq_true, Bool.not_true, Bool.not_false, decide_eq_true_eq, decide_true, decide_false, oneInt_int, twoInts_int,
  add_ii, add_ll, add_tt, add_ss, sub_ii, mul_ii, mulS_ii, mod_ii, fdiv_ii, neg_i, le_ii, gt_ii, ge_ii, eqT_ii, eqT_ss, eqT_bb, eqT_nn, ltT_ii, ltT_ss, wo_eqD, wo_neD, wo_ltD, wo_inD, wo_ninD, is_n, isnt_n, is_bb, isnt_bb, isN, bOf_b, iOf_i, tru_b, tru_n, tru_i, tru_l, tru_t, seq_l, seq_t, tup_l, tup_t, lst_l, lst_t, len_l, len_t, int_i, int_b, abs_i, max_ii, min_ii, ix_li, ix_ti, cut_l, cut_t, flat_i, flat_b, flat_s, ix0, ix1, ix2, mkTup, mkLst,
  ws_par3, three_c, ws_grp, empty_own, lOwnD_own, wm_lcW, wm_getD, wm_ind, ix3, ix4, ix_m2, ix_m1, ix_p2, ix_p1, wm_newD, ws_setK, wm_get, wm_ixK, wm_sortN, ws_ext, dOwn_own, lOwn_own, lsD_list, step_nx, step_cnt, step_brk, step_ret, step_rof, wm_reve, rev_l, rev_t, wm_opBL, repr_l, sort_l, sum_l, wm_enum, enum_l, enum_t, enumL_nil, wm_dic, wm_kvn, wm_kvc, seq_s, mulT_si, len_s, ord_c, str_i, ty_d, k_lb, k_li, k_ls, k_tb, k_ti, k_ts, k_db, k_di, k_ds, k_lt, k_tl,
  isi_1, tyOk_n, tyOk_b, tyOk_i, tyOk_s, tyOk_l, tyOk_t, ty_n, ty_b, ty_i, ty_s, ty_l, ty_t, k_nb, k_bb, k_ib, k_sb, k_ni, k_bi, k_ii, k_si, k_ns, k_bs, k_is, k_ss, k_ll, k_tt,
  Int.reduceNeg, Int.reducePow, Int.reduceLT, Int.reduceLE, Int.reduceAdd, Int.reduceSub, Int.reduceMul, Int.reduceToNat, Nat.reduceAdd, Nat.reduceLeDiff, Nat.reduceEqDiff, Int.reduceEq, reduceCtorEq]
    generalize fnd ms = F at hF hN hfl ⊢
    refine ws_forA mvD (fun p ρ => ∃ (o2 o4 : Option Cell), (canSet (some o2) = some () ∧ canSet (some o4) = some ()) ∧ ρ = [some (.val (.list (ms.map mvD))), some (.val (.list (F.map mvD))), o2, some (.val (.list ((srt (p.filter fun m => decide (m.2 ≠ 0))).map mvD))), o4, none]) ⟨o2, none, ⟨h2, rfl⟩, rfl⟩ ?_ ?_
    · clear h2
      rintro p m s ρ e ⟨o2, o4, ⟨h2, h4⟩, rfl⟩
      have hpk : okL (p ++ [m]) := fun x hx => hF x (by rw [e]; rcases List.mem_append.mp hx with h | h; exact List.mem_append_left _ h; rw [List.mem_singleton.mp h]; simp)
      have hpn : nd (p ++ [m]) := hN.sublist (by rw [e, ← List.singleton_append (l := s), ← List.append_assoc]; exact List.sublist_append_left _ _)
      have hpl : p.length < 1000000 := by
        have := congrArg List.length e
        rw [List.length_append, List.length_cons] at this
        omega
      obtain ⟨hp, hm⟩ := okL_app.mp hpk
      have hm := hm m (by simp)
      have hfn := flt_nd (p := fun m : Mv => decide (m.2 ≠ 0)) (List.pairwise_append.mp hpn).1
      have hfo := flt_ok (p := fun m : Mv => decide (m.2 ≠ 0)) hp
      have hSp := srt_perm hfo hfn
      have hSa := srt_asc hfo hfn
      have hSl : (srt (p.filter fun m => decide (m.2 ≠ 0))).length ≤ p.length := by
        rw [hSp.length_eq]
        exact List.length_filter_le _ _
      have hSo := okL_perm hSp.symm hfo
      have eS : m.2 ≠ 0 → srt ((p ++ [m]).filter fun m => decide (m.2 ≠ 0)) = ins m (srt (p.filter fun m => decide (m.2 ≠ 0))) := fun hz => by
        rw [List.filter_append, List.filter_cons_of_pos (by simpa using hz)]
        unfold srt
        rw [List.foldl_append]
        rfl
      have eS2 : m.2 = 0 → srt ((p ++ [m]).filter fun m => decide (m.2 ≠ 0)) = srt (p.filter fun m => decide (m.2 ≠ 0)) := fun hz => by
        rw [List.filter_append, List.filter_cons_of_neg (by simpa using hz), List.filter_nil, List.append_nil]
      generalize srt (p.filter fun m => decide (m.2 ≠ 0)) = S at hSp hSa hSl hSo eS eS2 ⊢
      have hit := ins_take hSo hm hSa
      have hfl2 := List.length_filter_le (fun o : Mv => kLt o.1 m.1) S
      by_cases hz : m.2 = 0
      · rw [eS2 hz]
        obtain ⟨⟨t, r⟩, w⟩ := m
        have hz : w = 0 := hz
        simp only [backE, wipeE, wo_some, wo_none, wm_c, wm_var, wm_frz, wm_bin, wm_un, wm_tst, wm_tru, wm_truB, wm_chain, wm_and, wm_or, wm_not, wm_andV, wm_orV, wm_notV, wm_ifE, wm_nil, wm_cons, wm_app, wm_noP, wm_part, wm_sl, wm_pk, wm_io, wm_ix, wm_inB, wm_true, wm_seq, wm_rng1, wm_rng2,
  then_nx, then_ret, then_rof, then_brk, then_cnt, ws_next, ws_brk, ws_cnt, ws_seq, ws_if, ws_ret, ws_rof, ws_drop, ws_set, ws_own, ws_asg, wo_TN, wo_TNil, wo_TCons, wo_TTup, ws_ap, ws_setIx, ws_for, for_nil, turn_nx, turn_cnt, turn_brk, turn_ret, turn_rof, wm_lc, end_ret, end_nx, end_rof, end_io, ownOf_own, valOf_val, frz_val, frz_own, cOwn_own, peek_val, peek_own, by_val, by_own, canSet_none, canSet_val, canSet_own, lstOf_list,
  List.getElem?_cons_zero, List.getElem?_cons_succ, List.set_cons_zero, List.set_cons_succ, List.length_cons, List.length_nil, wo_ite, wo_bind, ↓reduceIte, and_true, true_and, and_self, Bool.false_eq_true, Bool.not_true, Bool.not_false, decide_eq_true_eq, decide_true, decide_false, oneInt_int, twoInts_int,
  add_ii, add_ll, add_tt, add_ss, sub_ii, mul_ii, mulS_ii, mod_ii, fdiv_ii, neg_i, le_ii, gt_ii, ge_ii, eqT_ii, eqT_ss, eqT_bb, eqT_nn, ltT_ii, ltT_ss, wo_eqD, wo_neD, wo_ltD, wo_inD, wo_ninD, is_n, isnt_n, is_bb, isnt_bb, isN, bOf_b, iOf_i, tru_b, tru_n, tru_i, tru_l, tru_t, seq_l, seq_t, tup_l, tup_t, lst_l, lst_t, len_l, len_t, int_i, int_b, abs_i, max_ii, min_ii, ix_li, ix_ti, cut_l, cut_t, flat_i, flat_b, flat_s, ix0, ix1, ix2, mkTup, mkLst,
  ws_par3, three_c, ws_grp, empty_own, lOwnD_own, wm_lcW, wm_getD, wm_ind, ix3, ix4, ix_m2, ix_m1, ix_p2, ix_p1, wm_newD, ws_setK, wm_get, wm_ixK, wm_sortN, ws_ext, dOwn_own, lOwn_own, lsD_list, step_nx, step_cnt, step_brk, step_ret, step_rof, wm_reve, rev_l, rev_t, wm_opBL, repr_l, sort_l, sum_l, wm_enum, enum_l, enum_t, enumL_nil, wm_dic, wm_kvn, wm_kvc, seq_s, mulT_si, len_s, ord_c, str_i, ty_d, k_lb, k_li, k_ls, k_tb, k_ti, k_ts, k_db, k_di, k_ds, k_lt, k_tl,
  isi_1, tyOk_n, tyOk_b, tyOk_i, tyOk_s, tyOk_l, tyOk_t, ty_n, ty_b, ty_i, ty_s, ty_l, ty_t, k_nb, k_bb, k_ib, k_sb, k_ni, k_bi, k_ii, k_si, k_ns, k_bs, k_is, k_ss, k_ll, k_tt,
  Int.reduceNeg, Int.reducePow, Int.reduceLT, Int.reduceLE, Int.reduceAdd, Int.reduceSub, Int.reduceMul, Int.reduceToNat, Nat.reduceAdd, Nat.reduceLeDiff, Nat.reduceEqDiff, Int.reduceEq, reduceCtorEq, mvD, h2, hz]
        exact ⟨_, _, ⟨rfl, h4⟩, rfl⟩
      · rw [eS hz, ← hit]
        have hmD : ∃ t r w, mvD m = .tuple [.int t, .tuple r, .int w] ∧ w = m.2 := ⟨_, _, _, rfl, rfl⟩
        obtain ⟨t, r, w, hmD, hw⟩ := hmD
        have hz' : ¬ w = 0 := by rw [hw]; exact hz
        have hbe := fun (o : Mv) (ho : o ∈ S) => sp_move_before (hSo o ho) hm
        rw [hmD] at hbe ⊢
        simp only [backE, wipeE, wo_some, wo_none, wm_c, wm_var, wm_frz, wm_bin, wm_un, wm_tst, wm_tru, wm_truB, wm_chain, wm_and, wm_or, wm_not, wm_andV, wm_orV, wm_notV, wm_ifE, wm_nil, wm_cons, wm_app, wm_noP, wm_part, wm_sl, wm_pk, wm_io, wm_ix, wm_inB, wm_true, wm_seq, wm_rng1, wm_rng2,
  then_nx, then_ret, then_rof, then_brk, then_cnt, ws_next, ws_brk, ws_cnt, ws_seq, ws_if, ws_ret, ws_rof, ws_drop, ws_set, ws_own, ws_asg, wo_TN, wo_TNil, wo_TCons, wo_TTup, ws_ap, ws_setIx, ws_for, for_nil, turn_nx, turn_cnt, turn_brk, turn_ret, turn_rof, wm_lc, end_ret, end_nx, end_rof, end_io, ownOf_own, valOf_val, frz_val, frz_own, cOwn_own, peek_val, peek_own, by_val, by_own, canSet_none, canSet_val, canSet_own, lstOf_list,
  List.getElem?_cons_zero, List.getElem?_cons_succ, List.set_cons_zero, List.set_cons_succ, List.length_cons, List.length_nil, wo_ite, wo_bind, ↓reduceIte, and_true, true_and, and_self, Bool.false_eq_true, Bool.not_true, Bool.not_false, decide_eq_true_eq, decide_true, decide_false, oneInt_int, twoInts_int,
  add_ii, add_ll, add_tt, add_ss, sub_ii, mul_ii, mulS_ii, mod_ii, fdiv_ii, neg_i, le_ii, gt_ii, ge_ii, eqT_ii, eqT_ss, eqT_bb, eqT_nn, ltT_ii, ltT_ss, wo_eqD, wo_neD, wo_ltD, wo_inD, wo_ninD, is_n, isnt_n, is_bb, isnt_bb, isN, bOf_b, iOf_i, tru_b, tru_n, tru_i, tru_l, tru_t, seq_l, seq_t, tup_l, tup_t, lst_l, lst_t, len_l, len_t, int_i, int_b, abs_i, max_ii, min_ii, ix_li, ix_ti, cut_l, cut_t, flat_i, flat_b, flat_s, ix0, ix1, ix2, mkTup, mkLst,
  ws_par3, three_c, ws_grp, empty_own, lOwnD_own, wm_lcW, wm_getD, wm_ind, ix3, ix4, ix_m2, ix_m1, ix_p2, ix_p1, wm_newD, ws_setK, wm_get, wm_ixK, wm_sortN, ws_ext, dOwn_own, lOwn_own, lsD_list, step_nx, step_cnt, step_brk, step_ret, step_rof, wm_reve, rev_l, rev_t, wm_opBL, repr_l, sort_l, sum_l, wm_enum, enum_l, enum_t, enumL_nil, wm_dic, wm_kvn, wm_kvc, seq_s, mulT_si, len_s, ord_c, str_i, ty_d, k_lb, k_li, k_ls, k_tb, k_ti, k_ts, k_db, k_di, k_ds, k_lt, k_tl,
  isi_1, tyOk_n, tyOk_b, tyOk_i, tyOk_s, tyOk_l, tyOk_t, ty_n, ty_b, ty_i, ty_s, ty_l, ty_t, k_nb, k_bb, k_ib, k_sb, k_ni, k_bi, k_ii, k_si, k_ns, k_bs, k_is, k_ss, k_ll, k_tt,
  Int.reduceNeg, Int.reducePow, Int.reduceLT, Int.reduceLE, Int.reduceAdd, Int.reduceSub, Int.reduceMul, Int.reduceToNat, Nat.reduceAdd, Nat.reduceLeDiff, Nat.reduceEqDiff, Int.reduceEq, reduceCtorEq, h2, hz', List.length_map]
        refine ⟨⟨by omega, rfl⟩, ?_⟩
        refine lc_filterA mvD mvD (fun o : Mv => kLt o.1 m.1) _ (fun o ho => ?_) ?_
        · show Wo (gTN 5 _ [some (.val (.list (ms.map mvD))), some (.val (.list (F.map mvD))), some (.val (.tuple [.int t, .tuple r, .int w])), some (.val (.list (S.map mvD))), o4, none]) _
          simp only [backE, wipeE, wo_some, wo_none, wm_c, wm_var, wm_frz, wm_bin, wm_un, wm_tst, wm_tru, wm_truB, wm_chain, wm_and, wm_or, wm_not, wm_andV, wm_orV, wm_notV, wm_ifE, wm_nil, wm_cons, wm_app, wm_noP, wm_part, wm_sl, wm_pk, wm_io, wm_ix, wm_inB, wm_true, wm_seq, wm_rng1, wm_rng2,
  then_nx, then_ret, then_rof, then_brk, then_cnt, ws_next, ws_brk, ws_cnt, ws_seq, ws_if, ws_ret, ws_rof, ws_drop, ws_set, ws_own, ws_asg, wo_TN, wo_TNil, wo_TCons, wo_TTup, ws_ap, ws_setIx, ws_for, for_nil, turn_nx, turn_cnt, turn_brk, turn_ret, turn_rof, wm_lc, end_ret, end_nx, end_rof, end_io, ownOf_own, valOf_val, frz_val, frz_own, cOwn_own, peek_val, peek_own, by_val, by_own, canSet_none, canSet_val, canSet_own, lstOf_list,
  List.getElem?_cons_zero, List.getElem?_cons_succ, List.set_cons_zero, List.set_cons_succ, List.length_cons, List.length_nil, wo_ite, wo_bind, ↓reduceIte, and_true, true_and, and_self, Bool.false_eq_true, Bool.not_true, Bool.not_false, decide_eq_true_eq, decide_true, decide_false, oneInt_int, twoInts_int,
  add_ii, add_ll, add_tt, add_ss, sub_ii, mul_ii, mulS_ii, mod_ii, fdiv_ii, neg_i, le_ii, gt_ii, ge_ii, eqT_ii, eqT_ss, eqT_bb, eqT_nn, ltT_ii, ltT_ss, wo_eqD, wo_neD, wo_ltD, wo_inD, wo_ninD, is_n, isnt_n, is_bb, isnt_bb, isN, bOf_b, iOf_i, tru_b, tru_n, tru_i, tru_l, tru_t, seq_l, seq_t, tup_l, tup_t, lst_l, lst_t, len_l, len_t, int_i, int_b, abs_i, max_ii, min_ii, ix_li, ix_ti, cut_l, cut_t, flat_i, flat_b, flat_s, ix0, ix1, ix2, mkTup, mkLst,
  ws_par3, three_c, ws_grp, empty_own, lOwnD_own, wm_lcW, wm_getD, wm_ind, ix3, ix4, ix_m2, ix_m1, ix_p2, ix_p1, wm_newD, ws_setK, wm_get, wm_ixK, wm_sortN, ws_ext, dOwn_own, lOwn_own, lsD_list, step_nx, step_cnt, step_brk, step_ret, step_rof, wm_reve, rev_l, rev_t, wm_opBL, repr_l, sort_l, sum_l, wm_enum, enum_l, enum_t, enumL_nil, wm_dic, wm_kvn, wm_kvc, seq_s, mulT_si, len_s, ord_c, str_i, ty_d, k_lb, k_li, k_ls, k_tb, k_ti, k_ts, k_db, k_di, k_ds, k_lt, k_tl,
  isi_1, tyOk_n, tyOk_b, tyOk_i, tyOk_s, tyOk_l, tyOk_t, ty_n, ty_b, ty_i, ty_s, ty_l, ty_t, k_nb, k_bb, k_ib, k_sb, k_ni, k_bi, k_ii, k_si, k_ns, k_bs, k_is, k_ss, k_ll, k_tt,
  Int.reduceNeg, Int.reducePow, Int.reduceLT, Int.reduceLE, Int.reduceAdd, Int.reduceSub, Int.reduceMul, Int.reduceToNat, Nat.reduceAdd, Nat.reduceLeDiff, Nat.reduceEqDiff, Int.reduceEq, reduceCtorEq, hbe o ho]
          exact ⟨fun _ => trivial, fun _ => trivial⟩
        · simp only [backE, wipeE, wo_some, wo_none, wm_c, wm_var, wm_frz, wm_bin, wm_un, wm_tst, wm_tru, wm_truB, wm_chain, wm_and, wm_or, wm_not, wm_andV, wm_orV, wm_notV, wm_ifE, wm_nil, wm_cons, wm_app, wm_noP, wm_part, wm_sl, wm_pk, wm_io, wm_ix, wm_inB, wm_true, wm_seq, wm_rng1, wm_rng2,
  then_nx, then_ret, then_rof, then_brk, then_cnt, ws_next, ws_brk, ws_cnt, ws_seq, ws_if, ws_ret, ws_rof, ws_drop, ws_set, ws_own, ws_asg, wo_TN, wo_TNil, wo_TCons, wo_TTup, ws_ap, ws_setIx, ws_for, for_nil, turn_nx, turn_cnt, turn_brk, turn_ret, turn_rof, wm_lc, end_ret, end_nx, end_rof, end_io, ownOf_own, valOf_val, frz_val, frz_own, cOwn_own, peek_val, peek_own, by_val, by_own, canSet_none, canSet_val, canSet_own, lstOf_list,
  List.getElem?_cons_zero, List.getElem?_cons_succ, List.set_cons_zero, List.set_cons_succ, List.length_cons, List.length_nil, wo_ite, wo_bind, ↓reduceIte, and_true, true_and, and_self, Bool.false_eq_true, Bool.not_true, Bool.not_false, decide_eq_true_eq, decide_true, decide_false, oneInt_int, twoInts_int,
  add_ii, add_ll, add_tt, add_ss, sub_ii, mul_ii, mulS_ii, mod_ii, fdiv_ii, neg_i, le_ii, gt_ii, ge_ii, eqT_ii, eqT_ss, eqT_bb, eqT_nn, ltT_ii, ltT_ss, wo_eqD, wo_neD, wo_ltD, wo_inD, wo_ninD, is_n, isnt_n, is_bb, isnt_bb, isN, bOf_b, iOf_i, tru_b, tru_n, tru_i, tru_l, tru_t, seq_l, seq_t, tup_l, tup_t, lst_l, lst_t, len_l, len_t, int_i, int_b, abs_i, max_ii, min_ii, ix_li, ix_ti, cut_l, cut_t, flat_i, flat_b, flat_s, ix0, ix1, ix2, mkTup, mkLst,
  ws_par3, three_c, ws_grp, empty_own, lOwnD_own, wm_lcW, wm_getD, wm_ind, ix3, ix4, ix_m2, ix_m1, ix_p2, ix_p1, wm_newD, ws_setK, wm_get, wm_ixK, wm_sortN, ws_ext, dOwn_own, lOwn_own, lsD_list, step_nx, step_cnt, step_brk, step_ret, step_rof, wm_reve, rev_l, rev_t, wm_opBL, repr_l, sort_l, sum_l, wm_enum, enum_l, enum_t, enumL_nil, wm_dic, wm_kvn, wm_kvc, seq_s, mulT_si, len_s, ord_c, str_i, ty_d, k_lb, k_li, k_ls, k_tb, k_ti, k_ts, k_db, k_di, k_ds, k_lt, k_tl,
  isi_1, tyOk_n, tyOk_b, tyOk_i, tyOk_s, tyOk_l, tyOk_t, ty_n, ty_b, ty_i, ty_s, ty_l, ty_t, k_nb, k_bb, k_ib, k_sb, k_ni, k_bi, k_ii, k_si, k_ns, k_bs, k_is, k_ss, k_ll, k_tt,
  Int.reduceNeg, Int.reducePow, Int.reduceLT, Int.reduceLE, Int.reduceAdd, Int.reduceSub, Int.reduceMul, Int.reduceToNat, Nat.reduceAdd, Nat.reduceLeDiff, Nat.reduceEqDiff, Int.reduceEq, reduceCtorEq, backE, h4, List.length_map, cut_take, cut_drop]
          rw [if_pos (by rw [List.length_take, List.length_map]; omega), if_pos (by rw [List.length_append, List.length_take, List.length_drop, List.length_map, List.length_singleton]; omega)]
          refine ⟨some (.val (.tuple [.int t, .tuple r, .int w])), some (.val (.int ↑(S.filter fun o => kLt o.1 m.1).length)), ⟨rfl, rfl⟩, ?_⟩
          rw [List.map_append, List.map_append, List.map_take, List.map_drop, List.map_cons, List.map_nil, hmD]
    · rintro ρ' ⟨o2, o4, ⟨h2, h4⟩, rfl⟩
      simp only [backE, wipeE, wo_some, wo_none, wm_c, wm_var, wm_frz, wm_bin, wm_un, wm_tst, wm_tru, wm_truB, wm_chain, wm_and, wm_or, wm_not, wm_andV, wm_orV, wm_notV, wm_ifE, wm_nil, wm_cons, wm_app, wm_noP, wm_part, wm_sl, wm_pk, wm_io, wm_ix, wm_inB, wm_true, wm_seq, wm_rng1, wm_rng2,
  then_nx, then_ret, then_rof, then_brk, then_cnt, ws_next, ws_brk, ws_cnt, ws_seq, ws_if, ws_ret, ws_rof, ws_drop, ws_set, ws_own, ws_asg, wo_TN, wo_TNil, wo_TCons, wo_TTup, ws_ap, ws_setIx, ws_for, for_nil, turn_nx, turn_cnt, turn_brk, turn_ret, turn_rof, wm_lc, end_ret, end_nx, end_rof, end_io, ownOf_own, valOf_val, frz_val, frz_own, cOwn_own, peek_val, peek_own, by_val, by_own, canSet_none, canSet_val, canSet_own, lstOf_list,
  List.getElem?_cons_zero, List.getElem?_cons_succ, List.set_cons_zero, List.set_cons_succ, List.length_cons, List.length_nil, wo_ite, wo_bind, ↓reduceIte, and_true, true_and, and_self, Bool.false_eq_true, Bool.not_true, Bool.not_false, decide_eq_true_eq, decide_true, decide_false, oneInt_int, twoInts_int,
  add_ii, add_ll, add_tt, add_ss, sub_ii, mul_ii, mulS_ii, mod_ii, fdiv_ii, neg_i, le_ii, gt_ii, ge_ii, eqT_ii, eqT_ss, eqT_bb, eqT_nn, ltT_ii, ltT_ss, wo_eqD, wo_neD, wo_ltD, wo_inD, wo_ninD, is_n, isnt_n, is_bb, isnt_bb, isN, bOf_b, iOf_i, tru_b, tru_n, tru_i, tru_l, tru_t, seq_l, seq_t, tup_l, tup_t, lst_l, lst_t, len_l, len_t, int_i, int_b, abs_i, max_ii, min_ii, ix_li, ix_ti, cut_l, cut_t, flat_i, flat_b, flat_s, ix0, ix1, ix2, mkTup, mkLst,
  ws_par3, three_c, ws_grp, empty_own, lOwnD_own, wm_lcW, wm_getD, wm_ind, ix3, ix4, ix_m2, ix_m1, ix_p2, ix_p1, wm_newD, ws_setK, wm_get, wm_ixK, wm_sortN, ws_ext, dOwn_own, lOwn_own, lsD_list, step_nx, step_cnt, step_brk, step_ret, step_rof, wm_reve, rev_l, rev_t, wm_opBL, repr_l, sort_l, sum_l, wm_enum, enum_l, enum_t, enumL_nil, wm_dic, wm_kvn, wm_kvc, seq_s, mulT_si, len_s, ord_c, str_i, ty_d, k_lb, k_li, k_ls, k_tb, k_ti, k_ts, k_db, k_di, k_ds, k_lt, k_tl,
  isi_1, tyOk_n, tyOk_b, tyOk_i, tyOk_s, tyOk_l, tyOk_t, ty_n, ty_b, ty_i, ty_s, ty_l, ty_t, k_nb, k_bb, k_ib, k_sb, k_ni, k_bi, k_ii, k_si, k_ns, k_bs, k_is, k_ss, k_ll, k_tt,
  Int.reduceNeg, Int.reducePow, Int.reduceLT, Int.reduceLE, Int.reduceAdd, Int.reduceSub, Int.reduceMul, Int.reduceToNat, Nat.reduceAdd, Nat.reduceLeDiff, Nat.reduceEqDiff, Int.reduceEq, reduceCtorEq]
theorem sp_same_flow {ms : List Mv} (h : okL ms) (hl : ms.length ≤ 1000000) : f__law_same_flow [.list (ms.map mvD), .list (ms.map mvD)] = some (.bool true) := by
  rw [← wo_eq]
  unfold f__law_same_flow
  rw [wo_runV]
  show Ws g__law_same_flow [some (.val (.list (ms.map mvD))), some (.val (.list (ms.map mvD))), none] _
  unfold g__law_same_flow
  simp only [backE, wipeE, wo_some, wo_none, wm_c, wm_var, wm_frz, wm_bin, wm_un, wm_tst, wm_tru, wm_truB, wm_chain, wm_and, wm_or, wm_not, wm_andV, wm_orV, wm_notV, wm_ifE, wm_nil, wm_cons, wm_app, wm_noP, wm_part, wm_sl, wm_pk, wm_io, wm_ix, wm_inB, wm_true, wm_seq, wm_rng1, wm_rng2,
  then_nx, then_ret, then_rof, then_brk, then_cnt, ws_next, ws_brk, ws_cnt, ws_seq, ws_if, ws_ret, ws_rof, ws_drop, ws_set, ws_own, ws_asg, wo_TN, wo_TNil, wo_TCons, wo_TTup, ws_ap, ws_setIx, ws_for, for_nil, turn_nx, turn_cnt, turn_brk, turn_ret, turn_rof, wm_lc, end_ret, end_nx, end_rof, end_io, ownOf_own, valOf_val, frz_val, frz_own, cOwn_own, peek_val, peek_own, by_val, by_own, canSet_none, canSet_val, canSet_own, lstOf_list,
  List.getElem?_cons_zero, List.getElem?_cons_succ, List.set_cons_zero, List.set_cons_succ, List.length_cons, List.length_nil, wo_ite, wo_bind, ↓reduceIte, and_true, true_and, and_self, Bool.false_eq_true, Bool.not_true, Bool.not_false, decide_eq_true_eq, decide_true, decide_false, oneInt_int, twoInts_int,
  add_ii, add_ll, add_tt, add_ss, sub_ii, mul_ii, mulS_ii, mod_ii, fdiv_ii, neg_i, le_ii, gt_ii, ge_ii, eqT_ii, eqT_ss, eqT_bb, eqT_nn, ltT_ii, ltT_ss, wo_eqD, wo_neD, wo_ltD, wo_inD, wo_ninD, is_n, isnt_n, is_bb, isnt_bb, isN, bOf_b, iOf_i, tru_b, tru_n, tru_i, tru_l, tru_t, seq_l, seq_t, tup_l, tup_t, lst_l, lst_t, len_l, len_t, int_i, int_b, abs_i, max_ii, min_ii, ix_li, ix_ti, cut_l, cut_t, flat_i, flat_b, flat_s, ix0, ix1, ix2, mkTup, mkLst,
  ws_par3, three_c, ws_grp, empty_own, lOwnD_own, wm_lcW, wm_getD, wm_ind, ix3, ix4, ix_m2, ix_m1, ix_p2, ix_p1, wm_newD, ws_setK, wm_get, wm_ixK, wm_sortN, ws_ext, dOwn_own, lOwn_own, lsD_list, step_nx, step_cnt, step_brk, step_ret, step_rof, wm_reve, rev_l, rev_t, wm_opBL, repr_l, sort_l, sum_l, wm_enum, enum_l, enum_t, enumL_nil, wm_dic, wm_kvn, wm_kvc, seq_s, mulT_si, len_s, ord_c, str_i, ty_d, k_lb, k_li, k_ls, k_tb, k_ti, k_ts, k_db, k_di, k_ds, k_lt, k_tl,
  isi_1, tyOk_n, tyOk_b, tyOk_i, tyOk_s, tyOk_l, tyOk_t, ty_n, ty_b, ty_i, ty_s, ty_l, ty_t, k_nb, k_bb, k_ib, k_sb, k_ni, k_bi, k_ii, k_si, k_ns, k_bs, k_is, k_ss, k_ll, k_tt,
  Int.reduceNeg, Int.reducePow, Int.reduceLT, Int.reduceLE, Int.reduceAdd, Int.reduceSub, Int.reduceMul, Int.reduceToNat, Nat.reduceAdd, Nat.reduceLeDiff, Nat.reduceEqDiff, Int.reduceEq, reduceCtorEq, List.length_map]
  rw [if_pos (small_nat (by omega)), Int.toNat_natCast, rng_map]
  refine ws_forA (fun i : Nat => PyData.int i) (fun p ρ => ∃ (o2 : Option Cell), canSet (some o2) = some () ∧ ρ = [some (.val (.list (ms.map mvD))), some (.val (.list (ms.map mvD))), o2]) ⟨none, rfl, rfl⟩ ?_ ?_
  · rintro p i s ρ e ⟨o2, h2, rfl⟩
    obtain ⟨e1, e2⟩ := rng_split e
    have e3 : ms[i]? = some ms[i] := List.getElem?_eq_getElem e2
    have e4 : ixA (ms.map mvD) (i : Int) = some (mvD ms[i]) := by rw [ixA_nat, List.getElem?_map, e3]; rfl
    have hkm : okK ms[i].1 := h _ (List.getElem_mem e2)
    generalize ms[i] = m at e3 e4 hkm
    obtain ⟨⟨t, r⟩, w⟩ := m
    have e4 : ixA (ms.map mvD) (i : Int) = some (.tuple [.int t, .tuple r, .int w]) := e4
    have hal := sp_alike hkm.1 hkm.1 hkm.2 hkm.2
    rw [ltR_irr hkm.1] at hal
    simp only [backE, wipeE, wo_some, wo_none, wm_c, wm_var, wm_frz, wm_bin, wm_un, wm_tst, wm_tru, wm_truB, wm_chain, wm_and, wm_or, wm_not, wm_andV, wm_orV, wm_notV, wm_ifE, wm_nil, wm_cons, wm_app, wm_noP, wm_part, wm_sl, wm_pk, wm_io, wm_ix, wm_inB, wm_true, wm_seq, wm_rng1, wm_rng2,
  then_nx, then_ret, then_rof, then_brk, then_cnt, ws_next, ws_brk, ws_cnt, ws_seq, ws_if, ws_ret, ws_rof, ws_drop, ws_set, ws_own, ws_asg, wo_TN, wo_TNil, wo_TCons, wo_TTup, ws_ap, ws_setIx, ws_for, for_nil, turn_nx, turn_cnt, turn_brk, turn_ret, turn_rof, wm_lc, end_ret, end_nx, end_rof, end_io, ownOf_own, valOf_val, frz_val, frz_own, cOwn_own, peek_val, peek_own, by_val, by_own, canSet_none, canSet_val, canSet_own, lstOf_list,
  List.getElem?_cons_zero, List.getElem?_cons_succ, List.set_cons_zero, List.set_cons_succ, List.length_cons, List.length_nil, wo_ite, wo_bind, ↓reduceIte, and_true, true_and, and_self, Bool.false_eq_true, Bool.not_true, Bool.not_false, decide_eq_true_eq, decide_true, decide_false, oneInt_int, twoInts_int,
  add_ii, add_ll, add_tt, add_ss, sub_ii, mul_ii, mulS_ii, mod_ii, fdiv_ii, neg_i, le_ii, gt_ii, ge_ii, eqT_ii, eqT_ss, eqT_bb, eqT_nn, ltT_ii, ltT_ss, wo_eqD, wo_neD, wo_ltD, wo_inD, wo_ninD, is_n, isnt_n, is_bb, isnt_bb, isN, bOf_b, iOf_i, tru_b, tru_n, tru_i, tru_l, tru_t, seq_l, seq_t, tup_l, tup_t, lst_l, lst_t, len_l, len_t, int_i, int_b, abs_i, max_ii, min_ii, ix_li, ix_ti, cut_l, cut_t, flat_i, flat_b, flat_s, ix0, ix1, ix2, mkTup, mkLst,
  ws_par3, three_c, ws_grp, empty_own, lOwnD_own, wm_lcW, wm_getD, wm_ind, ix3, ix4, ix_m2, ix_m1, ix_p2, ix_p1, wm_newD, ws_setK, wm_get, wm_ixK, wm_sortN, ws_ext, dOwn_own, lOwn_own, lsD_list, step_nx, step_cnt, step_brk, step_ret, step_rof, wm_reve, rev_l, rev_t, wm_opBL, repr_l, sort_l, sum_l, wm_enum, enum_l, enum_t, enumL_nil, wm_dic, wm_kvn, wm_kvc, seq_s, mulT_si, len_s, ord_c, str_i, ty_d, k_lb, k_li, k_ls, k_tb, k_ti, k_ts, k_db, k_di, k_ds, k_lt, k_tl,
  isi_1, tyOk_n, tyOk_b, tyOk_i, tyOk_s, tyOk_l, tyOk_t, ty_n, ty_b, ty_i, ty_s, ty_l, ty_t, k_nb, k_bb, k_ib, k_sb, k_ni, k_bi, k_ii, k_si, k_ns, k_bs, k_is, k_ss, k_ll, k_tt,
  Int.reduceNeg, Int.reducePow, Int.reduceLT, Int.reduceLE, Int.reduceAdd, Int.reduceSub, Int.reduceMul, Int.reduceToNat, Nat.reduceAdd, Nat.reduceLeDiff, Nat.reduceEqDiff, Int.reduceEq, reduceCtorEq, h2, e4, hal]
    exact ⟨_, rfl, rfl⟩
  · rintro ρ' ⟨o2, h2, rfl⟩
    simp only [backE, wipeE, wo_some, wo_none, wm_c, wm_var, wm_frz, wm_bin, wm_un, wm_tst, wm_tru, wm_truB, wm_chain, wm_and, wm_or, wm_not, wm_andV, wm_orV, wm_notV, wm_ifE, wm_nil, wm_cons, wm_app, wm_noP, wm_part, wm_sl, wm_pk, wm_io, wm_ix, wm_inB, wm_true, wm_seq, wm_rng1, wm_rng2,
  then_nx, then_ret, then_rof, then_brk, then_cnt, ws_next, ws_brk, ws_cnt, ws_seq, ws_if, ws_ret, ws_rof, ws_drop, ws_set, ws_own, ws_asg, wo_TN, wo_TNil, wo_TCons, wo_TTup, ws_ap, ws_setIx, ws_for, for_nil, turn_nx, turn_cnt, turn_brk, turn_ret, turn_rof, wm_lc, end_ret, end_nx, end_rof, end_io, ownOf_own, valOf_val, frz_val, frz_own, cOwn_own, peek_val, peek_own, by_val, by_own, canSet_none, canSet_val, canSet_own, lstOf_list,
  List.getElem?_cons_zero, List.getElem?_cons_succ, List.set_cons_zero, List.set_cons_succ, List.length_cons, List.length_nil, wo_ite, wo_bind, ↓reduceIte, and_true, true_and, and_self, Bool.false_eq_true, Bool.not_true, Bool.not_false, decide_eq_true_eq, decide_true, decide_false, oneInt_int, twoInts_int,
  add_ii, add_ll, add_tt, add_ss, sub_ii, mul_ii, mulS_ii, mod_ii, fdiv_ii, neg_i, le_ii, gt_ii, ge_ii, eqT_ii, eqT_ss, eqT_bb, eqT_nn, ltT_ii, ltT_ss, wo_eqD, wo_neD, wo_ltD, wo_inD, wo_ninD, is_n, isnt_n, is_bb, isnt_bb, isN, bOf_b, iOf_i, tru_b, tru_n, tru_i, tru_l, tru_t, seq_l, seq_t, tup_l, tup_t, lst_l, lst_t, len_l, len_t, int_i, int_b, abs_i, max_ii, min_ii, ix_li, ix_ti, cut_l, cut_t, flat_i, flat_b, flat_s, ix0, ix1, ix2, mkTup, mkLst,
  ws_par3, three_c, ws_grp, empty_own, lOwnD_own, wm_lcW, wm_getD, wm_ind, ix3, ix4, ix_m2, ix_m1, ix_p2, ix_p1, wm_newD, ws_setK, wm_get, wm_ixK, wm_sortN, ws_ext, dOwn_own, lOwn_own, lsD_list, step_nx, step_cnt, step_brk, step_ret, step_rof, wm_reve, rev_l, rev_t, wm_opBL, repr_l, sort_l, sum_l, wm_enum, enum_l, enum_t, enumL_nil, wm_dic, wm_kvn, wm_kvc, seq_s, mulT_si, len_s, ord_c, str_i, ty_d, k_lb, k_li, k_ls, k_tb, k_ti, k_ts, k_db, k_di, k_ds, k_lt, k_tl,
  isi_1, tyOk_n, tyOk_b, tyOk_i, tyOk_s, tyOk_l, tyOk_t, ty_n, ty_b, ty_i, ty_s, ty_l, ty_t, k_nb, k_bb, k_ib, k_sb, k_ni, k_bi, k_ii, k_si, k_ns, k_bs, k_is, k_ss, k_ll, k_tt,
  Int.reduceNeg, Int.reducePow, Int.reduceLT, Int.reduceLE, Int.reduceAdd, Int.reduceSub, Int.reduceMul, Int.reduceToNat, Nat.reduceAdd, Nat.reduceLeDiff, Nat.reduceEqDiff, Int.reduceEq, reduceCtorEq]

/-! columns by their names -/
theorem col_loop {x : Str} : ∀ (ps : List (Str × Str)) (i : Nat) (f o1 o2 : Option Cell), canSet (some o1) = some () → canSet (some o2) = some () →
    Ws (forD (gTTup 2 (gTCons (gTN 2) (gTCons (gTN 3) gTNil))) (sIf (gTst (gBin eqD (gBin ixD (gVar 3) (gC (.int 0))) (gVar 1))) (sRet (gVar 2)) sNext) (enumL i (ps.map fdD)))
      [f, some (.val (.str x)), o1, o2] (thenQ (sRet (gC .none)) fun f ρ => Wo (endV (f, ρ)) fun r => r = colAt i ps x)
  | [], i, f, o1, o2, h1, h2 => by
    rw [List.map_nil, enumL_nil]
    simp only [backE, wipeE, wo_some, wo_none, wm_c, wm_var, wm_frz, wm_bin, wm_un, wm_tst, wm_tru, wm_truB, wm_chain, wm_and, wm_or, wm_not, wm_andV, wm_orV, wm_notV, wm_ifE, wm_nil, wm_cons, wm_app, wm_noP, wm_part, wm_sl, wm_pk, wm_io, wm_ix, wm_inB, wm_true, wm_seq, wm_rng1, wm_rng2,
  then_nx, then_ret, then_rof, then_brk, then_cnt, ws_next, ws_brk, ws_cnt, ws_seq, ws_if, ws_ret, ws_rof, ws_drop, ws_set, ws_own, ws_asg, wo_TN, wo_TNil, wo_TCons, wo_TTup, ws_ap, ws_setIx, ws_for, for_nil, turn_nx, turn_cnt, turn_brk, turn_ret, turn_rof, wm_lc, end_ret, end_nx, end_rof, end_io, ownOf_own, valOf_val, frz_val, frz_own, cOwn_own, peek_val, peek_own, by_val, by_own, canSet_none, canSet_val, canSet_own, lstOf_list,
  List.getElem?_cons_zero, List.getElem?_cons_succ, List.set_cons_zero, List.set_cons_succ, List.length_cons, List.length_nil, wo_ite, wo_bind, ↓reduceIte, and_true, true_and, and_self, Bool.false_eq_true, Bool.not_true, Bool.not_false, decide_eq_true_eq, decide_true, decide_false, oneInt_int, twoInts_int,
  add_ii, add_ll, add_tt, add_ss, sub_ii, mul_ii, mulS_ii, mod_ii, fdiv_ii, neg_i, le_ii, gt_ii, ge_ii, eqT_ii, eqT_ss, eqT_bb, eqT_nn, ltT_ii, ltT_ss, wo_eqD, wo_neD, wo_ltD, wo_inD, wo_ninD, is_n, isnt_n, is_bb, isnt_bb, isN, bOf_b, iOf_i, tru_b, tru_n, tru_i, tru_l, tru_t, seq_l, seq_t, tup_l, tup_t, lst_l, lst_t, len_l, len_t, int_i, int_b, abs_i, max_ii, min_ii, ix_li, ix_ti, cut_l, cut_t, flat_i, flat_b, flat_s, ix0, ix1, ix2, mkTup, mkLst,
  ws_par3, three_c, ws_grp, empty_own, lOwnD_own, wm_lcW, wm_getD, wm_ind, ix3, ix4, ix_m2, ix_m1, ix_p2, ix_p1, wm_newD, ws_setK, wm_get, wm_ixK, wm_sortN, ws_ext, dOwn_own, lOwn_own, lsD_list, step_nx, step_cnt, step_brk, step_ret, step_rof, wm_reve, rev_l, rev_t, wm_opBL, repr_l, sort_l, sum_l, wm_enum, enum_l, enum_t, enumL_nil, wm_dic, wm_kvn, wm_kvc, seq_s, mulT_si, len_s, ord_c, str_i, ty_d, k_lb, k_li, k_ls, k_tb, k_ti, k_ts, k_db, k_di, k_ds, k_lt, k_tl,
  isi_1, tyOk_n, tyOk_b, tyOk_i, tyOk_s, tyOk_l, tyOk_t, ty_n, ty_b, ty_i, ty_s, ty_l, ty_t, k_nb, k_bb, k_ib, k_sb, k_ni, k_bi, k_ii, k_si, k_ns, k_bs, k_is, k_ss, k_ll, k_tt,
  Int.reduceNeg, Int.reducePow, Int.reduceLT, Int.reduceLE, Int.reduceAdd, Int.reduceSub, Int.reduceMul, Int.reduceToNat, Nat.reduceAdd, Nat.reduceLeDiff, Nat.reduceEqDiff, Int.reduceEq, reduceCtorEq]
    all_goals rfl
  | p :: ps, i, f, o1, o2, h1, h2 => by
    rw [List.map_cons, enumL_cons, for_cons]
    have ih := col_loop (x := x) ps (i + 1) f (some (.val (.int i))) (some (.val (fdD p))) rfl rfl
    unfold fdD at ih ⊢
    simp only [backE, wipeE, wo_some, wo_none, wm_c, wm_var, wm_frz, wm_bin, wm_un, wm_tst, wm_tru, wm_truB, wm_chain, wm_and, wm_or, wm_not, wm_andV, wm_orV, wm_notV, wm_ifE, wm_nil, wm_cons, wm_app, wm_noP, wm_part, wm_sl, wm_pk, wm_io, wm_ix, wm_inB, wm_true, wm_seq, wm_rng1, wm_rng2,
  then_nx, then_ret, then_rof, then_brk, then_cnt, ws_next, ws_brk, ws_cnt, ws_seq, ws_if, ws_ret, ws_rof, ws_drop, ws_set, ws_own, ws_asg, wo_TN, wo_TNil, wo_TCons, wo_TTup, ws_ap, ws_setIx, ws_for, for_nil, turn_nx, turn_cnt, turn_brk, turn_ret, turn_rof, wm_lc, end_ret, end_nx, end_rof, end_io, ownOf_own, valOf_val, frz_val, frz_own, cOwn_own, peek_val, peek_own, by_val, by_own, canSet_none, canSet_val, canSet_own, lstOf_list,
  List.getElem?_cons_zero, List.getElem?_cons_succ, List.set_cons_zero, List.set_cons_succ, List.length_cons, List.length_nil, wo_ite, wo_bind, ↓reduceIte, and_true, true_and, and_self, Bool.false_eq_true, Bool.not_true, Bool.not_false, decide_eq_true_eq, decide_true, decide_false, oneInt_int, twoInts_int,
  add_ii, add_ll, add_tt, add_ss, sub_ii, mul_ii, mulS_ii, mod_ii, fdiv_ii, neg_i, le_ii, gt_ii, ge_ii, eqT_ii, eqT_ss, eqT_bb, eqT_nn, ltT_ii, ltT_ss, wo_eqD, wo_neD, wo_ltD, wo_inD, wo_ninD, is_n, isnt_n, is_bb, isnt_bb, isN, bOf_b, iOf_i, tru_b, tru_n, tru_i, tru_l, tru_t, seq_l, seq_t, tup_l, tup_t, lst_l, lst_t, len_l, len_t, int_i, int_b, abs_i, max_ii, min_ii, ix_li, ix_ti, cut_l, cut_t, flat_i, flat_b, flat_s, ix0, ix1, ix2, mkTup, mkLst,
  ws_par3, three_c, ws_grp, empty_own, lOwnD_own, wm_lcW, wm_getD, wm_ind, ix3, ix4, ix_m2, ix_m1, ix_p2, ix_p1, wm_newD, ws_setK, wm_get, wm_ixK, wm_sortN, ws_ext, dOwn_own, lOwn_own, lsD_list, step_nx, step_cnt, step_brk, step_ret, step_rof, wm_reve, rev_l, rev_t, wm_opBL, repr_l, sort_l, sum_l, wm_enum, enum_l, enum_t, enumL_nil, wm_dic, wm_kvn, wm_kvc, seq_s, mulT_si, len_s, ord_c, str_i, ty_d, k_lb, k_li, k_ls, k_tb, k_ti, k_ts, k_db, k_di, k_ds, k_lt, k_tl,
  isi_1, tyOk_n, tyOk_b, tyOk_i, tyOk_s, tyOk_l, tyOk_t, ty_n, ty_b, ty_i, ty_s, ty_l, ty_t, k_nb, k_bb, k_ib, k_sb, k_ni, k_bi, k_ii, k_si, k_ns, k_bs, k_is, k_ss, k_ll, k_tt,
  Int.reduceNeg, Int.reducePow, Int.reduceLT, Int.reduceLE, Int.reduceAdd, Int.reduceSub, Int.reduceMul, Int.reduceToNat, Nat.reduceAdd, Nat.reduceLeDiff, Nat.reduceEqDiff, Int.reduceEq, reduceCtorEq, h1, h2]
    rw [colAt]
    split
    · rfl
    · exact ih
theorem sp_column {ps : List (Str × Str)} {fd : D} {x : Str} (hs : enumOf [fd] = some (enumL 0 (ps.map fdD))) : f_column_index [fd, .str x] = some (colAt 0 ps x) := by
  rw [← wo_eq]
  unfold f_column_index
  rw [wo_runV]
  show Ws g_column_index [some (.val fd), some (.val (.str x)), none, none] _
  unfold g_column_index
  simp only [backE, wipeE, wo_some, wo_none, wm_c, wm_var, wm_frz, wm_bin, wm_un, wm_tst, wm_tru, wm_truB, wm_chain, wm_and, wm_or, wm_not, wm_andV, wm_orV, wm_notV, wm_ifE, wm_nil, wm_cons, wm_app, wm_noP, wm_part, wm_sl, wm_pk, wm_io, wm_ix, wm_inB, wm_true, wm_seq, wm_rng1, wm_rng2,
  then_nx, then_ret, then_rof, then_brk, then_cnt, ws_next, ws_brk, ws_cnt, ws_seq, ws_if, ws_ret, ws_rof, ws_drop, ws_set, ws_own, ws_asg, wo_TN, wo_TNil, wo_TCons, wo_TTup, ws_ap, ws_setIx, ws_for, for_nil, turn_nx, turn_cnt, turn_brk, turn_ret, turn_rof, wm_lc, end_ret, end_nx, end_rof, end_io, ownOf_own, valOf_val, frz_val, frz_own, cOwn_own, peek_val, peek_own, by_val, by_own, canSet_none, canSet_val, canSet_own, lstOf_list,
  List.getElem?_cons_zero, List.getElem?_cons_succ, List.set_cons_zero, List.set_cons_succ, List.length_cons, List.length_nil, wo_ite, wo_bind, ↓reduceIte, and_true, true_and, and_self, Bool.false_eq_true, Bool.not_true, Bool.not_false, decide_eq_true_eq, decide_true, decide_false, oneInt_int, twoInts_int,
  add_ii, add_ll, add_tt, add_ss, sub_ii, mul_ii, mulS_ii, mod_ii, fdiv_ii, neg_i, le_ii, gt_ii, ge_ii, eqT_ii, eqT_ss, eqT_bb, eqT_nn, ltT_ii, ltT_ss, wo_eqD, wo_neD, wo_ltD, wo_inD, wo_ninD, is_n, isnt_n, is_bb, isnt_bb, isN, bOf_b, iOf_i, tru_b, tru_n, tru_i, tru_l, tru_t, seq_l, seq_t, tup_l, tup_t, lst_l, lst_t, len_l, len_t, int_i, int_b, abs_i, max_ii, min_ii, ix_li, ix_ti, cut_l, cut_t, flat_i, flat_b, flat_s, ix0, ix1, ix2, mkTup, mkLst,
  ws_par3, three_c, ws_grp, empty_own, lOwnD_own, wm_lcW, wm_getD, wm_ind, ix3, ix4, ix_m2, ix_m1, ix_p2, ix_p1, wm_newD, ws_setK, wm_get, wm_ixK, wm_sortN, ws_ext, dOwn_own, lOwn_own, lsD_list, step_nx, step_cnt, step_brk, step_ret, step_rof, wm_reve, rev_l, rev_t, wm_opBL, repr_l, sort_l, sum_l, wm_enum, enum_l, enum_t, enumL_nil, wm_dic, wm_kvn, wm_kvc, seq_s, mulT_si, len_s, ord_c, str_i, ty_d, k_lb, k_li, k_ls, k_tb, k_ti, k_ts, k_db, k_di, k_ds, k_lt, k_tl,
  isi_1, tyOk_n, tyOk_b, tyOk_i, tyOk_s, tyOk_l, tyOk_t, ty_n, ty_b, ty_i, ty_s, ty_l, ty_t, k_nb, k_bb, k_ib, k_sb, k_ni, k_bi, k_ii, k_si, k_ns, k_bs, k_is, k_ss, k_ll, k_tt,
  Int.reduceNeg, Int.reducePow, Int.reduceLT, Int.reduceLE, Int.reduceAdd, Int.reduceSub, Int.reduceMul, Int.reduceToNat, Nat.reduceAdd, Nat.reduceLeDiff, Nat.reduceEqDiff, Int.reduceEq, reduceCtorEq, hs]
  exact col_loop ps 0 _ _ _ rfl rfl

/-! the values in some columns -/
def nmAt (ps : List (Str × Str)) (o : Nat) : Str := ((ps[o]?).map (·.1)).getD ""
def valAt (vs : List D) (o : Nat) : D := (vs[o]?).getD .none
theorem sp_key_of {vs : List D} {ps : List (Str × Str)} {os : List Nat} {d : D} (hd : seqOf d = some (os.map fun o => .str (nmAt ps o))) (hn : (ps.map (·.1)).Nodup) (hl : vs.length = ps.length) (ho : ∀ o ∈ os, o < ps.length) (h1 : os.length ≤ 1000) :
    f_key_of [.tuple vs, .tuple (ps.map fdD), d] = some (.tuple (os.map (valAt vs))) := by
  rw [← wo_eq]
  unfold f_key_of
  rw [wo_runV]
  show Ws g_key_of [some (.val (.tuple vs)), some (.val (.tuple (ps.map fdD))), some (.val d), none] _
  unfold g_key_of
  simp only [backE, wipeE, wo_some, wo_none, wm_c, wm_var, wm_frz, wm_bin, wm_un, wm_tst, wm_tru, wm_truB, wm_chain, wm_and, wm_or, wm_not, wm_andV, wm_orV, wm_notV, wm_ifE, wm_nil, wm_cons, wm_app, wm_noP, wm_part, wm_sl, wm_pk, wm_io, wm_ix, wm_inB, wm_true, wm_seq, wm_rng1, wm_rng2,
  then_nx, then_ret, then_rof, then_brk, then_cnt, ws_next, ws_brk, ws_cnt, ws_seq, ws_if, ws_ret, ws_rof, ws_drop, ws_set, ws_own, ws_asg, wo_TN, wo_TNil, wo_TCons, wo_TTup, ws_ap, ws_setIx, ws_for, for_nil, turn_nx, turn_cnt, turn_brk, turn_ret, turn_rof, wm_lc, end_ret, end_nx, end_rof, end_io, ownOf_own, valOf_val, frz_val, frz_own, cOwn_own, peek_val, peek_own, by_val, by_own, canSet_none, canSet_val, canSet_own, lstOf_list,
  List.getElem?_cons_zero, List.getElem?_cons_succ, List.set_cons_zero, List.set_cons_succ, List.length_cons, List.length_nil, wo_ite, wo_bind, ↓reduceIte, and_true, true_and, and_self, Bool.false_eq_true, Bool.not_true, Bool.not_false, decide_eq_true_eq, decide_true, decide_false, oneInt_int, twoInts_int,
  add_ii, add_ll, add_tt, add_ss, sub_ii, mul_ii, mulS_ii, mod_ii, fdiv_ii, neg_i, le_ii, gt_ii, ge_ii, eqT_ii, eqT_ss, eqT_bb, eqT_nn, ltT_ii, ltT_ss, wo_eqD, wo_neD, wo_ltD, wo_inD, wo_ninD, is_n, isnt_n, is_bb, isnt_bb, isN, bOf_b, iOf_i, tru_b, tru_n, tru_i, tru_l, tru_t, seq_l, seq_t, tup_l, tup_t, lst_l, lst_t, len_l, len_t, int_i, int_b, abs_i, max_ii, min_ii, ix_li, ix_ti, cut_l, cut_t, flat_i, flat_b, flat_s, ix0, ix1, ix2, mkTup, mkLst,
  ws_par3, three_c, ws_grp, empty_own, lOwnD_own, wm_lcW, wm_getD, wm_ind, ix3, ix4, ix_m2, ix_m1, ix_p2, ix_p1, wm_newD, ws_setK, wm_get, wm_ixK, wm_sortN, ws_ext, dOwn_own, lOwn_own, lsD_list, step_nx, step_cnt, step_brk, step_ret, step_rof, wm_reve, rev_l, rev_t, wm_opBL, repr_l, sort_l, sum_l, wm_enum, enum_l, enum_t, enumL_nil, wm_dic, wm_kvn, wm_kvc, seq_s, mulT_si, len_s, ord_c, str_i, ty_d, k_lb, k_li, k_ls, k_tb, k_ti, k_ts, k_db, k_di, k_ds, k_lt, k_tl,
  isi_1, tyOk_n, tyOk_b, tyOk_i, tyOk_s, tyOk_l, tyOk_t, ty_n, ty_b, ty_i, ty_s, ty_l, ty_t, k_nb, k_bb, k_ib, k_sb, k_ni, k_bi, k_ii, k_si, k_ns, k_bs, k_is, k_ss, k_ll, k_tt,
  Int.reduceNeg, Int.reducePow, Int.reduceLT, Int.reduceLE, Int.reduceAdd, Int.reduceSub, Int.reduceMul, Int.reduceToNat, Nat.reduceAdd, Nat.reduceLeDiff, Nat.reduceEqDiff, Int.reduceEq, reduceCtorEq, hd, List.length_map]
  refine ⟨⟨by omega, rfl⟩, ?_⟩
  refine lc_mapA _ (valAt vs) _ (fun o hm => ?_) rfl
  have hp := ho o hm
  have e1 : ps[o]? = some ps[o] := List.getElem?_eq_getElem hp
  have e2 : nmAt ps o = ps[o].1 := by rw [nmAt, e1]; rfl
  have e3 : colAt 0 ps (nmAt ps o) = .int o := by rw [e2, col_at hn e1, Nat.zero_add]
  have e4 : ixA vs (o : Int) = some (valAt vs o) := by
    rw [ixA_nat, valAt, List.getElem?_eq_getElem (by omega)]
    rfl
  show Wo (gTN 3 _ [some (.val (.tuple vs)), some (.val (.tuple (ps.map fdD))), some (.val d), none]) _
  simp only [backE, wipeE, wo_some, wo_none, wm_c, wm_var, wm_frz, wm_bin, wm_un, wm_tst, wm_tru, wm_truB, wm_chain, wm_and, wm_or, wm_not, wm_andV, wm_orV, wm_notV, wm_ifE, wm_nil, wm_cons, wm_app, wm_noP, wm_part, wm_sl, wm_pk, wm_io, wm_ix, wm_inB, wm_true, wm_seq, wm_rng1, wm_rng2,
  then_nx, then_ret, then_rof, then_brk, then_cnt, ws_next, ws_brk, ws_cnt, ws_seq, ws_if, ws_ret, ws_rof, ws_drop, ws_set, ws_own, ws_asg, wo_TN, wo_TNil, wo_TCons, wo_TTup, ws_ap, ws_setIx, ws_for, for_nil, turn_nx, turn_cnt, turn_brk, turn_ret, turn_rof, wm_lc, end_ret, end_nx, end_rof, end_io, ownOf_own, valOf_val, frz_val, frz_own, cOwn_own, peek_val, peek_own, by_val, by_own, canSet_none, canSet_val, canSet_own, lstOf_list,
  List.getElem?_cons_zero, List.getElem?_cons_succ, List.set_cons_zero, List.set_cons_succ, List.length_cons, List.length_nil, wo_ite, wo_bind, ↓reduceIte, and_true, true_and, and_self, Bool.false_eq_true, Bool.not_true, Bool.not_false, decide_eq_true_eq, decide_true, decide_false, oneInt_int, twoInts_int,
  add_ii, add_ll, add_tt, add_ss, sub_ii, mul_ii, mulS_ii, mod_ii, fdiv_ii, neg_i, le_ii, gt_ii, ge_ii, eqT_ii, eqT_ss, eqT_bb, eqT_nn, ltT_ii, ltT_ss, wo_eqD, wo_neD, wo_ltD, wo_inD, wo_ninD, is_n, isnt_n, is_bb, isnt_bb, isN, bOf_b, iOf_i, tru_b, tru_n, tru_i, tru_l, tru_t, seq_l, seq_t, tup_l, tup_t, lst_l, lst_t, len_l, len_t, int_i, int_b, abs_i, max_ii, min_ii, ix_li, ix_ti, cut_l, cut_t, flat_i, flat_b, flat_s, ix0, ix1, ix2, mkTup, mkLst,
  ws_par3, three_c, ws_grp, empty_own, lOwnD_own, wm_lcW, wm_getD, wm_ind, ix3, ix4, ix_m2, ix_m1, ix_p2, ix_p1, wm_newD, ws_setK, wm_get, wm_ixK, wm_sortN, ws_ext, dOwn_own, lOwn_own, lsD_list, step_nx, step_cnt, step_brk, step_ret, step_rof, wm_reve, rev_l, rev_t, wm_opBL, repr_l, sort_l, sum_l, wm_enum, enum_l, enum_t, enumL_nil, wm_dic, wm_kvn, wm_kvc, seq_s, mulT_si, len_s, ord_c, str_i, ty_d, k_lb, k_li, k_ls, k_tb, k_ti, k_ts, k_db, k_di, k_ds, k_lt, k_tl,
  isi_1, tyOk_n, tyOk_b, tyOk_i, tyOk_s, tyOk_l, tyOk_t, ty_n, ty_b, ty_i, ty_s, ty_l, ty_t, k_nb, k_bb, k_ib, k_sb, k_ni, k_bi, k_ii, k_si, k_ns, k_bs, k_is, k_ss, k_ll, k_tt,
  Int.reduceNeg, Int.reducePow, Int.reduceLT, Int.reduceLE, Int.reduceAdd, Int.reduceSub, Int.reduceMul, Int.reduceToNat, Nat.reduceAdd, Nat.reduceLeDiff, Nat.reduceEqDiff, Int.reduceEq, reduceCtorEq, sp_column (ps := ps) (fd := .tuple (ps.map fdD)) rfl, e3, e4]
  all_goals rfl

def kfo (os : List Nat) (r : List D) : List D := os.map (valAt r)
/-- rows that fit fields: their values in some columns -/
theorem kfo_ok {os : List Nat} {r : List D} (hr : okR r) (hl : os.length ≤ 1000) : okR (kfo os r) := by
  refine ⟨fun v hv => ?_, by unfold kfo; rw [List.length_map]; exact hl⟩
  obtain ⟨o, h1, rfl⟩ := List.mem_map.mp hv
  unfold valAt
  cases e : r[o]? with
  | none => exact gv_none
  | some x => exact hr.1 x (List.mem_of_getElem? e)
section
variable {α : Type} {h : α → D} {row : α → List D} {os : List Nat} {ps : List (Str × Str)}
theorem grp_all {xs : List α} (hrow : ∀ x ∈ xs, okR (row x) ∧ (row x).length = ps.length) (ho : ∀ o ∈ os, o < ps.length) (hl : os.length ≤ 1000) : ∀ x ∈ xs, okR (kfo os (row x)) := fun x hx => kfo_ok (hrow x hx).1 hl
theorem wo_place {cd : D} {r : List D} {Q : D → Prop} (hcd : seqOf cd = some (os.map fun o => .str (nmAt ps o))) (hn : (ps.map (·.1)).Nodup) (hr : okR r) (hlr : r.length = ps.length) (ho : ∀ o ∈ os, o < ps.length) (hl : os.length ≤ 1000) (q : Q (kyR (kfo os r))) : Wo (f_key_of [.tuple r, .tuple (ps.map fdD), cd]) fun k => Wo (f_row_order [k]) Q := by
  rw [sp_key_of hcd hn hlr ho hl, wo_some]
  have ok := kfo_ok (os := os) hr hl
  rw [show os.map (valAt r) = kfo os r from rfl, sp_row_order ok.1 (Nat.le_trans ok.2 (by decide)), wo_some]
  exact q

end
theorem eqv_gv {d : D} (g : gv d) : PyData.eqv d d = true := by
  rcases gv_cases g with rfl | ⟨b, rfl⟩ | ⟨i, rfl⟩ | ⟨s, rfl⟩ <;> simp [PyData.eqv]
theorem eqv_row {xs : List D} (h : ∀ v ∈ xs, gv v) : PyData.eqvAll xs xs = true := by
  induction xs with
  | nil => rfl
  | cons x xs ih => rw [PyData.eqvAll, eqv_gv (h x List.mem_cons_self), ih fun v hv => h v (List.mem_cons_of_mem _ hv)]; rfl
theorem lay_row {xs : List D} (h : ∀ v ∈ xs, gv v) : PyData.canLayAll0 xs = true ∧ PyData.depthAll xs = 0 := by
  induction xs with
  | nil => exact ⟨rfl, rfl⟩
  | cons x xs ih =>
    obtain ⟨i1, i2⟩ := ih fun v hv => h v (List.mem_cons_of_mem _ hv)
    have g := h x List.mem_cons_self
    rw [PyData.canLayAll0, PyData.depthAll, i1, i2, depth_v g, SeqAt.canLay_of_shaped g.2]
    exact ⟨rfl, rfl⟩
theorem mv_facts {m : Mv} (h : okK m.1) : PyData.eqv (mvD m) (mvD m) = true ∧ (mvD m).canLay0 = true ∧ (mvD m).depth = 2 := by
  obtain ⟨r1, r2⟩ := lay_row h.1
  refine ⟨?_, ?_, ?_⟩
  · simp [mvD, PyData.eqv, PyData.eqvAll, eqv_row h.1]
  · simp [mvD, PyData.canLay0, PyData.canLayAll0, r1]
  · simp [mvD, PyData.depth, PyData.depthAll, r2]
theorem eq_flow {F : List Mv} (h : okL F) : eqT (.list (F.map mvD)) (.list (F.map mvD)) = some true := by
  have all : ∀ {F : List Mv}, okL F → PyData.eqvAll (F.map mvD) (F.map mvD) = true ∧ PyData.canLayAll0 (F.map mvD) = true ∧ PyData.depthAll (F.map mvD) ≤ 2 := by
    intro F
    induction F with
    | nil => exact fun _ => ⟨rfl, rfl, by simp [PyData.depthAll]⟩
    | cons x xs ih =>
      intro h
      obtain ⟨o1, o2⟩ := okL_cons.mp h
      obtain ⟨i1, i2, i3⟩ := ih o2
      obtain ⟨m1, m2, m3⟩ := mv_facts o1
      rw [List.map_cons, PyData.eqvAll, PyData.canLayAll0, PyData.depthAll, m1, m2, i1, i2]
      exact ⟨rfl, rfl, by omega⟩
  obtain ⟨a1, a2, a3⟩ := all h
  have hs : SeqAt.shaped (.list (F.map mvD)) = true := by
    unfold SeqAt.shaped
    rw [PyData.canLay0, PyData.depth, a2]
    simp
    omega
  show (if _ then _ else _) = _
  rw [if_pos ⟨hs, hs⟩, PyData.eqv, a1]

theorem ixOf_names {ps : List (Str × Str)} : ∀ {qs : List (Str × Str)} {o i : Nat} {p : Str × Str}, (qs.map (·.1)).Nodup → qs[o]? = some p → ixOf (.str p.1) (qs.map fun p => .str p.1) i = some (i + o)
  | [], o, i, p, _, h => by simp at h
  | q :: qs, 0, i, p, hn, h => by
    cases h
    rw [List.map_cons, ixOf]
    simp [PyData.eqv]
  | q :: qs, o + 1, i, p, hn, h => by
    rw [List.map_cons, List.nodup_cons] at hn
    have h' : qs[o]? = some p := h
    have hm : p.1 ∈ qs.map (·.1) := List.mem_map.mpr ⟨p, List.mem_of_getElem? h', rfl⟩
    have hne : ¬ q.1 = p.1 := fun e => hn.1 (e ▸ hm)
    rw [List.map_cons, ixOf, if_neg (by simpa [PyData.eqv] using hne), ixOf_names (ps := ps) hn.2 h']
    congr 1
    omega
theorem ind_name {ps : List (Str × Str)} {o : Nat} (hg : ∀ p ∈ ps, gv (.str p.1)) (hn : (ps.map (·.1)).Nodup) (ho : o < ps.length) : indF (.list (ps.map fun p => .str p.1)) (.str (nmAt ps o)) = some (.int o) := by
  have e1 : ps[o]? = some ps[o] := List.getElem?_eq_getElem ho
  have e2 : nmAt ps o = ps[o].1 := by rw [nmAt, e1]; rfl
  have hm := hg _ (List.getElem_mem ho)
  obtain ⟨l1, l2⟩ := lay_row (xs := ps.map fun p => .str p.1) fun v hv => by
    obtain ⟨p, hp, rfl⟩ := List.mem_map.mp hv
    exact hg p hp
  have hs : SeqAt.shaped (.list (ps.map fun p => PyData.str p.1)) = true := by
    unfold SeqAt.shaped
    rw [PyData.canLay0, PyData.depth, l1, l2]
    decide
  show (if SeqAt.shaped (.list (ps.map fun p => PyData.str p.1)) = true ∧ SeqAt.shaped (.str (nmAt ps o)) = true then (ixOf (.str (nmAt ps o)) (ps.map fun p => .str p.1) 0).bind fun j => some (PyData.int (j : Nat)) else none) = _
  rw [e2, if_pos ⟨hs, hm.2⟩, ixOf_names (ps := ps) hn e1]
  simp
theorem sp_law_key {ps : List (Str × Str)} {os : List Nat} {r : List D} {cd : D} (hcd : seqOf cd = some (os.map fun o => .str (nmAt ps o))) (hg : ∀ p ∈ ps, gv (.str p.1)) (hn : (ps.map (·.1)).Nodup) (hlr : r.length = ps.length) (ho : ∀ o ∈ os, o < ps.length) (hl : os.length ≤ 1000) (hp : ps.length ≤ 1000) :
    f__law_key [.tuple r, .tuple (ps.map fdD), cd] = some (.tuple (kfo os r)) := by
  rw [← wo_eq]
  unfold f__law_key
  rw [wo_runV]
  show Ws g__law_key [some (.val (.tuple r)), some (.val (.tuple (ps.map fdD))), some (.val cd), none, none, none] _
  unfold g__law_key
  simp only [backE, wipeE, wo_some, wo_none, wm_c, wm_var, wm_frz, wm_bin, wm_un, wm_tst, wm_tru, wm_truB, wm_chain, wm_and, wm_or, wm_not, wm_andV, wm_orV, wm_notV, wm_ifE, wm_nil, wm_cons, wm_app, wm_noP, wm_part, wm_sl, wm_pk, wm_io, wm_ix, wm_inB, wm_true, wm_seq, wm_rng1, wm_rng2,
  then_nx, then_ret, then_rof, then_brk, then_cnt, ws_next, ws_brk, ws_cnt, ws_seq, ws_if, ws_ret, ws_rof, ws_drop, ws_set, ws_own, ws_asg, wo_TN, wo_TNil, wo_TCons, wo_TTup, ws_ap, ws_setIx, ws_for, for_nil, turn_nx, turn_cnt, turn_brk, turn_ret, turn_rof, wm_lc, end_ret, end_nx, end_rof, end_io, ownOf_own, valOf_val, frz_val, frz_own, cOwn_own, peek_val, peek_own, by_val, by_own, canSet_none, canSet_val, canSet_own, lstOf_list,
  List.getElem?_cons_zero, List.getElem?_cons_succ, List.set_cons_zero, List.set_cons_succ, List.length_cons, List.length_nil, wo_ite, wo_bind, ↓reduceIte, and_true, true_and, and_self, Bool.false_eq_true, Bool.not_true, Bool.not_false, decide_eq_true_eq, decide_true, decide_false, oneInt_int, twoInts_int,
  add_ii, add_ll, add_tt, add_ss, sub_ii, mul_ii, mulS_ii, mod_ii, fdiv_ii, neg_i, le_ii, gt_ii, ge_ii, eqT_ii, eqT_ss, eqT_bb, eqT_nn, ltT_ii, ltT_ss, wo_eqD, wo_neD, wo_ltD, wo_inD, wo_ninD, is_n, isnt_n, is_bb, isnt_bb, isN, bOf_b, iOf_i, tru_b, tru_n, tru_i, tru_l, tru_t, seq_l, seq_t, tup_l, tup_t, lst_l, lst_t, len_l, len_t, int_i, int_b, abs_i, max_ii, min_ii, ix_li, ix_ti, cut_l, cut_t, flat_i, flat_b, flat_s, ix0, ix1, ix2, mkTup, mkLst,
  ws_par3, three_c, ws_grp, empty_own, lOwnD_own, wm_lcW, wm_getD, wm_ind, ix3, ix4, ix_m2, ix_m1, ix_p2, ix_p1, wm_newD, ws_setK, wm_get, wm_ixK, wm_sortN, ws_ext, dOwn_own, lOwn_own, lsD_list, step_nx, step_cnt, step_brk, step_ret, step_rof, wm_reve, rev_l, rev_t, wm_opBL, repr_l, sort_l, sum_l, wm_enum, enum_l, enum_t, enumL_nil, wm_dic, wm_kvn, wm_kvc, seq_s, mulT_si, len_s, ord_c, str_i, ty_d, k_lb, k_li, k_ls, k_tb, k_ti, k_ts, k_db, k_di, k_ds, k_lt, k_tl,
  isi_1, tyOk_n, tyOk_b, tyOk_i, tyOk_s, tyOk_l, tyOk_t, ty_n, ty_b, ty_i, ty_s, ty_l, ty_t, k_nb, k_bb, k_ib, k_sb, k_ni, k_bi, k_ii, k_si, k_ns, k_bs, k_is, k_ss, k_ll, k_tt,
  Int.reduceNeg, Int.reducePow, Int.reduceLT, Int.reduceLE, Int.reduceAdd, Int.reduceSub, Int.reduceMul, Int.reduceToNat, Nat.reduceAdd, Nat.reduceLeDiff, Nat.reduceEqDiff, Int.reduceEq, reduceCtorEq, List.length_map]
  refine ⟨⟨by omega, rfl⟩, ?_⟩
  refine lc_mapA fdD (fun p => .str p.1) _ (fun p _ => ?_) ?_
  · show Wo (gTN 4 _ [_, _, _, none, none, none]) _
    simp only [backE, wipeE, wo_some, wo_none, wm_c, wm_var, wm_frz, wm_bin, wm_un, wm_tst, wm_tru, wm_truB, wm_chain, wm_and, wm_or, wm_not, wm_andV, wm_orV, wm_notV, wm_ifE, wm_nil, wm_cons, wm_app, wm_noP, wm_part, wm_sl, wm_pk, wm_io, wm_ix, wm_inB, wm_true, wm_seq, wm_rng1, wm_rng2,
  then_nx, then_ret, then_rof, then_brk, then_cnt, ws_next, ws_brk, ws_cnt, ws_seq, ws_if, ws_ret, ws_rof, ws_drop, ws_set, ws_own, ws_asg, wo_TN, wo_TNil, wo_TCons, wo_TTup, ws_ap, ws_setIx, ws_for, for_nil, turn_nx, turn_cnt, turn_brk, turn_ret, turn_rof, wm_lc, end_ret, end_nx, end_rof, end_io, ownOf_own, valOf_val, frz_val, frz_own, cOwn_own, peek_val, peek_own, by_val, by_own, canSet_none, canSet_val, canSet_own, lstOf_list,
  List.getElem?_cons_zero, List.getElem?_cons_succ, List.set_cons_zero, List.set_cons_succ, List.length_cons, List.length_nil, wo_ite, wo_bind, ↓reduceIte, and_true, true_and, and_self, Bool.false_eq_true, Bool.not_true, Bool.not_false, decide_eq_true_eq, decide_true, decide_false, oneInt_int, twoInts_int,
  add_ii, add_ll, add_tt, add_ss, sub_ii, mul_ii, mulS_ii, mod_ii, fdiv_ii, neg_i, le_ii, gt_ii, ge_ii, eqT_ii, eqT_ss, eqT_bb, eqT_nn, ltT_ii, ltT_ss, wo_eqD, wo_neD, wo_ltD, wo_inD, wo_ninD, is_n, isnt_n, is_bb, isnt_bb, isN, bOf_b, iOf_i, tru_b, tru_n, tru_i, tru_l, tru_t, seq_l, seq_t, tup_l, tup_t, lst_l, lst_t, len_l, len_t, int_i, int_b, abs_i, max_ii, min_ii, ix_li, ix_ti, cut_l, cut_t, flat_i, flat_b, flat_s, ix0, ix1, ix2, mkTup, mkLst,
  ws_par3, three_c, ws_grp, empty_own, lOwnD_own, wm_lcW, wm_getD, wm_ind, ix3, ix4, ix_m2, ix_m1, ix_p2, ix_p1, wm_newD, ws_setK, wm_get, wm_ixK, wm_sortN, ws_ext, dOwn_own, lOwn_own, lsD_list, step_nx, step_cnt, step_brk, step_ret, step_rof, wm_reve, rev_l, rev_t, wm_opBL, repr_l, sort_l, sum_l, wm_enum, enum_l, enum_t, enumL_nil, wm_dic, wm_kvn, wm_kvc, seq_s, mulT_si, len_s, ord_c, str_i, ty_d, k_lb, k_li, k_ls, k_tb, k_ti, k_ts, k_db, k_di, k_ds, k_lt, k_tl,
  isi_1, tyOk_n, tyOk_b, tyOk_i, tyOk_s, tyOk_l, tyOk_t, ty_n, ty_b, ty_i, ty_s, ty_l, ty_t, k_nb, k_bb, k_ib, k_sb, k_ni, k_bi, k_ii, k_si, k_ns, k_bs, k_is, k_ss, k_ll, k_tt,
  Int.reduceNeg, Int.reducePow, Int.reduceLT, Int.reduceLE, Int.reduceAdd, Int.reduceSub, Int.reduceMul, Int.reduceToNat, Nat.reduceAdd, Nat.reduceLeDiff, Nat.reduceEqDiff, Int.reduceEq, reduceCtorEq, fdD]
    all_goals rfl
  · simp only [backE, wipeE, wo_some, wo_none, wm_c, wm_var, wm_frz, wm_bin, wm_un, wm_tst, wm_tru, wm_truB, wm_chain, wm_and, wm_or, wm_not, wm_andV, wm_orV, wm_notV, wm_ifE, wm_nil, wm_cons, wm_app, wm_noP, wm_part, wm_sl, wm_pk, wm_io, wm_ix, wm_inB, wm_true, wm_seq, wm_rng1, wm_rng2,
  then_nx, then_ret, then_rof, then_brk, then_cnt, ws_next, ws_brk, ws_cnt, ws_seq, ws_if, ws_ret, ws_rof, ws_drop, ws_set, ws_own, ws_asg, wo_TN, wo_TNil, wo_TCons, wo_TTup, ws_ap, ws_setIx, ws_for, for_nil, turn_nx, turn_cnt, turn_brk, turn_ret, turn_rof, wm_lc, end_ret, end_nx, end_rof, end_io, ownOf_own, valOf_val, frz_val, frz_own, cOwn_own, peek_val, peek_own, by_val, by_own, canSet_none, canSet_val, canSet_own, lstOf_list,
  List.getElem?_cons_zero, List.getElem?_cons_succ, List.set_cons_zero, List.set_cons_succ, List.length_cons, List.length_nil, wo_ite, wo_bind, ↓reduceIte, and_true, true_and, and_self, Bool.false_eq_true, Bool.not_true, Bool.not_false, decide_eq_true_eq, decide_true, decide_false, oneInt_int, twoInts_int,
  add_ii, add_ll, add_tt, add_ss, sub_ii, mul_ii, mulS_ii, mod_ii, fdiv_ii, neg_i, le_ii, gt_ii, ge_ii, eqT_ii, eqT_ss, eqT_bb, eqT_nn, ltT_ii, ltT_ss, wo_eqD, wo_neD, wo_ltD, wo_inD, wo_ninD, is_n, isnt_n, is_bb, isnt_bb, isN, bOf_b, iOf_i, tru_b, tru_n, tru_i, tru_l, tru_t, seq_l, seq_t, tup_l, tup_t, lst_l, lst_t, len_l, len_t, int_i, int_b, abs_i, max_ii, min_ii, ix_li, ix_ti, cut_l, cut_t, flat_i, flat_b, flat_s, ix0, ix1, ix2, mkTup, mkLst,
  ws_par3, three_c, ws_grp, empty_own, lOwnD_own, wm_lcW, wm_getD, wm_ind, ix3, ix4, ix_m2, ix_m1, ix_p2, ix_p1, wm_newD, ws_setK, wm_get, wm_ixK, wm_sortN, ws_ext, dOwn_own, lOwn_own, lsD_list, step_nx, step_cnt, step_brk, step_ret, step_rof, wm_reve, rev_l, rev_t, wm_opBL, repr_l, sort_l, sum_l, wm_enum, enum_l, enum_t, enumL_nil, wm_dic, wm_kvn, wm_kvc, seq_s, mulT_si, len_s, ord_c, str_i, ty_d, k_lb, k_li, k_ls, k_tb, k_ti, k_ts, k_db, k_di, k_ds, k_lt, k_tl,
  isi_1, tyOk_n, tyOk_b, tyOk_i, tyOk_s, tyOk_l, tyOk_t, ty_n, ty_b, ty_i, ty_s, ty_l, ty_t, k_nb, k_bb, k_ib, k_sb, k_ni, k_bi, k_ii, k_si, k_ns, k_bs, k_is, k_ss, k_ll, k_tt,
  Int.reduceNeg, Int.reducePow, Int.reduceLT, Int.reduceLE, Int.reduceAdd, Int.reduceSub, Int.reduceMul, Int.reduceToNat, Nat.reduceAdd, Nat.reduceLeDiff, Nat.reduceEqDiff, Int.reduceEq, reduceCtorEq, backE, hcd, List.length_map]
    refine ⟨⟨by omega, rfl⟩, ?_⟩
    refine lc_mapA _ (valAt r) _ (fun o hm => ?_) rfl
    have hlt := ho o hm
    have e4 : ixA r (o : Int) = some (valAt r o) := by
      rw [ixA_nat, valAt, List.getElem?_eq_getElem (by omega)]
      rfl
    show Wo (gTN 5 _ [some (.val (.tuple r)), _, _, some (.val (.list (ps.map fun p => .str p.1))), none, none]) _
    simp only [backE, wipeE, wo_some, wo_none, wm_c, wm_var, wm_frz, wm_bin, wm_un, wm_tst, wm_tru, wm_truB, wm_chain, wm_and, wm_or, wm_not, wm_andV, wm_orV, wm_notV, wm_ifE, wm_nil, wm_cons, wm_app, wm_noP, wm_part, wm_sl, wm_pk, wm_io, wm_ix, wm_inB, wm_true, wm_seq, wm_rng1, wm_rng2,
  then_nx, then_ret, then_rof, then_brk, then_cnt, ws_next, ws_brk, ws_cnt, ws_seq, ws_if, ws_ret, ws_rof, ws_drop, ws_set, ws_own, ws_asg, wo_TN, wo_TNil, wo_TCons, wo_TTup, ws_ap, ws_setIx, ws_for, for_nil, turn_nx, turn_cnt, turn_brk, turn_ret, turn_rof, wm_lc, end_ret, end_nx, end_rof, end_io, ownOf_own, valOf_val, frz_val, frz_own, cOwn_own, peek_val, peek_own, by_val, by_own, canSet_none, canSet_val, canSet_own, lstOf_list,
  List.getElem?_cons_zero, List.getElem?_cons_succ, List.set_cons_zero, List.set_cons_succ, List.length_cons, List.length_nil, wo_ite, wo_bind, ↓reduceIte, and_true, true_and, and_self, Bool.false_eq_true, Bool.not_true, Bool.not_false, decide_eq_true_eq, decide_true, decide_false, oneInt_int, twoInts_int,
  add_ii, add_ll, add_tt, add_ss, sub_ii, mul_ii, mulS_ii, mod_ii, fdiv_ii, neg_i, le_ii, gt_ii, ge_ii, eqT_ii, eqT_ss, eqT_bb, eqT_nn, ltT_ii, ltT_ss, wo_eqD, wo_neD, wo_ltD, wo_inD, wo_ninD, is_n, isnt_n, is_bb, isnt_bb, isN, bOf_b, iOf_i, tru_b, tru_n, tru_i, tru_l, tru_t, seq_l, seq_t, tup_l, tup_t, lst_l, lst_t, len_l, len_t, int_i, int_b, abs_i, max_ii, min_ii, ix_li, ix_ti, cut_l, cut_t, flat_i, flat_b, flat_s, ix0, ix1, ix2, mkTup, mkLst,
  ws_par3, three_c, ws_grp, empty_own, lOwnD_own, wm_lcW, wm_getD, wm_ind, ix3, ix4, ix_m2, ix_m1, ix_p2, ix_p1, wm_newD, ws_setK, wm_get, wm_ixK, wm_sortN, ws_ext, dOwn_own, lOwn_own, lsD_list, step_nx, step_cnt, step_brk, step_ret, step_rof, wm_reve, rev_l, rev_t, wm_opBL, repr_l, sort_l, sum_l, wm_enum, enum_l, enum_t, enumL_nil, wm_dic, wm_kvn, wm_kvc, seq_s, mulT_si, len_s, ord_c, str_i, ty_d, k_lb, k_li, k_ls, k_tb, k_ti, k_ts, k_db, k_di, k_ds, k_lt, k_tl,
  isi_1, tyOk_n, tyOk_b, tyOk_i, tyOk_s, tyOk_l, tyOk_t, ty_n, ty_b, ty_i, ty_s, ty_l, ty_t, k_nb, k_bb, k_ib, k_sb, k_ni, k_bi, k_ii, k_si, k_ns, k_bs, k_is, k_ss, k_ll, k_tt,
  Int.reduceNeg, Int.reducePow, Int.reduceLT, Int.reduceLE, Int.reduceAdd, Int.reduceSub, Int.reduceMul, Int.reduceToNat, Nat.reduceAdd, Nat.reduceLeDiff, Nat.reduceEqDiff, Int.reduceEq, reduceCtorEq, ind_name hg hn hlt, e4]
    all_goals rfl

def nov (o : Option Cell) : Prop := o = none ∨ ∃ d, o = some (.val d)
theorem nov_set {o : Option Cell} (h : nov o) : canSet (some o) = some () := by rcases h with rfl | ⟨d, rfl⟩ <;> rfl
theorem len_flat {α : Type} {n : Nat} : ∀ {p : List (List α)}, (∀ x ∈ p, x.length ≤ n) → p.flatten.length ≤ n * p.length
  | [], _ => Nat.le_refl _
  | x :: xs, h => by
    have := len_flat fun y hy => h y (List.mem_cons_of_mem _ hy)
    have := h x List.mem_cons_self
    rw [List.flatten_cons, List.length_append, List.length_cons, Nat.mul_succ]
    omega
theorem sne (a b : String) (h : a ≠ b) : decide ((Str.ofString a) = Str.ofString b) = false := decide_eq_false fun z => (str_ne h).mp z

def prD2 (ps qs : List (Str × Str)) (x : Nat × Nat) : D := .tuple [.str (nmAt ps x.1), .str (nmAt qs x.2)]
theorem sp_side0 {ps qs : List (Str × Str)} {pr : List (Nat × Nat)} (hl : pr.length ≤ 1000) : f_side_columns [.tuple (pr.map (prD2 ps qs)), .int 0] = some (.list ((pr.map (·.1)).map fun o => .str (nmAt ps o))) := by
  rw [← wo_eq]
  unfold f_side_columns
  rw [wo_runV]
  show Ws g_side_columns [some (.val (.tuple (pr.map (prD2 ps qs)))), some (.val (.int 0)), none] _
  unfold g_side_columns
  simp only [backE, wipeE, wo_some, wo_none, wm_c, wm_var, wm_frz, wm_bin, wm_un, wm_tst, wm_tru, wm_truB, wm_chain, wm_and, wm_or, wm_not, wm_andV, wm_orV, wm_notV, wm_ifE, wm_nil, wm_cons, wm_app, wm_noP, wm_part, wm_sl, wm_pk, wm_io, wm_ix, wm_inB, wm_true, wm_seq, wm_rng1, wm_rng2,
  then_nx, then_ret, then_rof, then_brk, then_cnt, ws_next, ws_brk, ws_cnt, ws_seq, ws_if, ws_ret, ws_rof, ws_drop, ws_set, ws_own, ws_asg, wo_TN, wo_TNil, wo_TCons, wo_TTup, ws_ap, ws_setIx, ws_for, for_nil, turn_nx, turn_cnt, turn_brk, turn_ret, turn_rof, wm_lc, end_ret, end_nx, end_rof, end_io, ownOf_own, valOf_val, frz_val, frz_own, cOwn_own, peek_val, peek_own, by_val, by_own, canSet_none, canSet_val, canSet_own, lstOf_list,
  List.getElem?_cons_zero, List.getElem?_cons_succ, List.set_cons_zero, List.set_cons_succ, List.length_cons, List.length_nil, wo_ite, wo_bind, ↓reduceIte, and_true, true_and, and_self, Bool.false_eq_true, Bool.not_true, Bool.not_false, decide_eq_true_eq, decide_true, decide_false, oneInt_int, twoInts_int,
  add_ii, add_ll, add_tt, add_ss, sub_ii, mul_ii, mulS_ii, mod_ii, fdiv_ii, neg_i, le_ii, gt_ii, ge_ii, eqT_ii, eqT_ss, eqT_bb, eqT_nn, ltT_ii, ltT_ss, wo_eqD, wo_neD, wo_ltD, wo_inD, wo_ninD, is_n, isnt_n, is_bb, isnt_bb, isN, bOf_b, iOf_i, tru_b, tru_n, tru_i, tru_l, tru_t, seq_l, seq_t, tup_l, tup_t, lst_l, lst_t, len_l, len_t, int_i, int_b, abs_i, max_ii, min_ii, ix_li, ix_ti, cut_l, cut_t, flat_i, flat_b, flat_s, ix0, ix1, ix2, mkTup, mkLst,
  ws_par3, three_c, ws_grp, empty_own, lOwnD_own, wm_lcW, wm_getD, wm_ind, ix3, ix4, ix_m2, ix_m1, ix_p2, ix_p1, wm_newD, ws_setK, wm_get, wm_ixK, wm_sortN, ws_ext, dOwn_own, lOwn_own, lsD_list, step_nx, step_cnt, step_brk, step_ret, step_rof, wm_reve, rev_l, rev_t, wm_opBL, repr_l, sort_l, sum_l, wm_enum, enum_l, enum_t, enumL_nil, wm_dic, wm_kvn, wm_kvc, seq_s, mulT_si, len_s, ord_c, str_i, ty_d, k_lb, k_li, k_ls, k_tb, k_ti, k_ts, k_db, k_di, k_ds, k_lt, k_tl,
  isi_1, tyOk_n, tyOk_b, tyOk_i, tyOk_s, tyOk_l, tyOk_t, ty_n, ty_b, ty_i, ty_s, ty_l, ty_t, k_nb, k_bb, k_ib, k_sb, k_ni, k_bi, k_ii, k_si, k_ns, k_bs, k_is, k_ss, k_ll, k_tt,
  Int.reduceNeg, Int.reducePow, Int.reduceLT, Int.reduceLE, Int.reduceAdd, Int.reduceSub, Int.reduceMul, Int.reduceToNat, Nat.reduceAdd, Nat.reduceLeDiff, Nat.reduceEqDiff, Int.reduceEq, reduceCtorEq, List.length_map]
  refine ⟨⟨by omega, rfl⟩, ?_⟩
  refine lc_mapA (prD2 ps qs) (fun x => .str (nmAt ps x.1)) _ (fun x _ => ?_) ?_
  · show Wo (gTN 2 _ [_, some (.val (.int 0)), none]) _
    simp only [backE, wipeE, wo_some, wo_none, wm_c, wm_var, wm_frz, wm_bin, wm_un, wm_tst, wm_tru, wm_truB, wm_chain, wm_and, wm_or, wm_not, wm_andV, wm_orV, wm_notV, wm_ifE, wm_nil, wm_cons, wm_app, wm_noP, wm_part, wm_sl, wm_pk, wm_io, wm_ix, wm_inB, wm_true, wm_seq, wm_rng1, wm_rng2,
  then_nx, then_ret, then_rof, then_brk, then_cnt, ws_next, ws_brk, ws_cnt, ws_seq, ws_if, ws_ret, ws_rof, ws_drop, ws_set, ws_own, ws_asg, wo_TN, wo_TNil, wo_TCons, wo_TTup, ws_ap, ws_setIx, ws_for, for_nil, turn_nx, turn_cnt, turn_brk, turn_ret, turn_rof, wm_lc, end_ret, end_nx, end_rof, end_io, ownOf_own, valOf_val, frz_val, frz_own, cOwn_own, peek_val, peek_own, by_val, by_own, canSet_none, canSet_val, canSet_own, lstOf_list,
  List.getElem?_cons_zero, List.getElem?_cons_succ, List.set_cons_zero, List.set_cons_succ, List.length_cons, List.length_nil, wo_ite, wo_bind, ↓reduceIte, and_true, true_and, and_self, Bool.false_eq_true, Bool.not_true, Bool.not_false, decide_eq_true_eq, decide_true, decide_false, oneInt_int, twoInts_int,
  add_ii, add_ll, add_tt, add_ss, sub_ii, mul_ii, mulS_ii, mod_ii, fdiv_ii, neg_i, le_ii, gt_ii, ge_ii, eqT_ii, eqT_ss, eqT_bb, eqT_nn, ltT_ii, ltT_ss, wo_eqD, wo_neD, wo_ltD, wo_inD, wo_ninD, is_n, isnt_n, is_bb, isnt_bb, isN, bOf_b, iOf_i, tru_b, tru_n, tru_i, tru_l, tru_t, seq_l, seq_t, tup_l, tup_t, lst_l, lst_t, len_l, len_t, int_i, int_b, abs_i, max_ii, min_ii, ix_li, ix_ti, cut_l, cut_t, flat_i, flat_b, flat_s, ix0, ix1, ix2, mkTup, mkLst,
  ws_par3, three_c, ws_grp, empty_own, lOwnD_own, wm_lcW, wm_getD, wm_ind, ix3, ix4, ix_m2, ix_m1, ix_p2, ix_p1, wm_newD, ws_setK, wm_get, wm_ixK, wm_sortN, ws_ext, dOwn_own, lOwn_own, lsD_list, step_nx, step_cnt, step_brk, step_ret, step_rof, wm_reve, rev_l, rev_t, wm_opBL, repr_l, sort_l, sum_l, wm_enum, enum_l, enum_t, enumL_nil, wm_dic, wm_kvn, wm_kvc, seq_s, mulT_si, len_s, ord_c, str_i, ty_d, k_lb, k_li, k_ls, k_tb, k_ti, k_ts, k_db, k_di, k_ds, k_lt, k_tl,
  isi_1, tyOk_n, tyOk_b, tyOk_i, tyOk_s, tyOk_l, tyOk_t, ty_n, ty_b, ty_i, ty_s, ty_l, ty_t, k_nb, k_bb, k_ib, k_sb, k_ni, k_bi, k_ii, k_si, k_ns, k_bs, k_is, k_ss, k_ll, k_tt,
  Int.reduceNeg, Int.reducePow, Int.reduceLT, Int.reduceLE, Int.reduceAdd, Int.reduceSub, Int.reduceMul, Int.reduceToNat, Nat.reduceAdd, Nat.reduceLeDiff, Nat.reduceEqDiff, Int.reduceEq, reduceCtorEq, prD2]
    all_goals rfl
  · rw [List.map_map]
    rfl
theorem sp_side1 {ps qs : List (Str × Str)} {pr : List (Nat × Nat)} (hl : pr.length ≤ 1000) : f_side_columns [.tuple (pr.map (prD2 ps qs)), .int 1] = some (.list ((pr.map (·.2)).map fun o => .str (nmAt qs o))) := by
  rw [← wo_eq]
  unfold f_side_columns
  rw [wo_runV]
  show Ws g_side_columns [some (.val (.tuple (pr.map (prD2 ps qs)))), some (.val (.int 1)), none] _
  unfold g_side_columns
  simp only [backE, wipeE, wo_some, wo_none, wm_c, wm_var, wm_frz, wm_bin, wm_un, wm_tst, wm_tru, wm_truB, wm_chain, wm_and, wm_or, wm_not, wm_andV, wm_orV, wm_notV, wm_ifE, wm_nil, wm_cons, wm_app, wm_noP, wm_part, wm_sl, wm_pk, wm_io, wm_ix, wm_inB, wm_true, wm_seq, wm_rng1, wm_rng2,
  then_nx, then_ret, then_rof, then_brk, then_cnt, ws_next, ws_brk, ws_cnt, ws_seq, ws_if, ws_ret, ws_rof, ws_drop, ws_set, ws_own, ws_asg, wo_TN, wo_TNil, wo_TCons, wo_TTup, ws_ap, ws_setIx, ws_for, for_nil, turn_nx, turn_cnt, turn_brk, turn_ret, turn_rof, wm_lc, end_ret, end_nx, end_rof, end_io, ownOf_own, valOf_val, frz_val, frz_own, cOwn_own, peek_val, peek_own, by_val, by_own, canSet_none, canSet_val, canSet_own, lstOf_list,
  List.getElem?_cons_zero, List.getElem?_cons_succ, List.set_cons_zero, List.set_cons_succ, List.length_cons, List.length_nil, wo_ite, wo_bind, ↓reduceIte, and_true, true_and, and_self, Bool.false_eq_true, Bool.not_true, Bool.not_false, decide_eq_true_eq, decide_true, decide_false, oneInt_int, twoInts_int,
  add_ii, add_ll, add_tt, add_ss, sub_ii, mul_ii, mulS_ii, mod_ii, fdiv_ii, neg_i, le_ii, gt_ii, ge_ii, eqT_ii, eqT_ss, eqT_bb, eqT_nn, ltT_ii, ltT_ss, wo_eqD, wo_neD, wo_ltD, wo_inD, wo_ninD, is_n, isnt_n, is_bb, isnt_bb, isN, bOf_b, iOf_i, tru_b, tru_n, tru_i, tru_l, tru_t, seq_l, seq_t, tup_l, tup_t, lst_l, lst_t, len_l, len_t, int_i, int_b, abs_i, max_ii, min_ii, ix_li, ix_ti, cut_l, cut_t, flat_i, flat_b, flat_s, ix0, ix1, ix2, mkTup, mkLst,
  ws_par3, three_c, ws_grp, empty_own, lOwnD_own, wm_lcW, wm_getD, wm_ind, ix3, ix4, ix_m2, ix_m1, ix_p2, ix_p1, wm_newD, ws_setK, wm_get, wm_ixK, wm_sortN, ws_ext, dOwn_own, lOwn_own, lsD_list, step_nx, step_cnt, step_brk, step_ret, step_rof, wm_reve, rev_l, rev_t, wm_opBL, repr_l, sort_l, sum_l, wm_enum, enum_l, enum_t, enumL_nil, wm_dic, wm_kvn, wm_kvc, seq_s, mulT_si, len_s, ord_c, str_i, ty_d, k_lb, k_li, k_ls, k_tb, k_ti, k_ts, k_db, k_di, k_ds, k_lt, k_tl,
  isi_1, tyOk_n, tyOk_b, tyOk_i, tyOk_s, tyOk_l, tyOk_t, ty_n, ty_b, ty_i, ty_s, ty_l, ty_t, k_nb, k_bb, k_ib, k_sb, k_ni, k_bi, k_ii, k_si, k_ns, k_bs, k_is, k_ss, k_ll, k_tt,
  Int.reduceNeg, Int.reducePow, Int.reduceLT, Int.reduceLE, Int.reduceAdd, Int.reduceSub, Int.reduceMul, Int.reduceToNat, Nat.reduceAdd, Nat.reduceLeDiff, Nat.reduceEqDiff, Int.reduceEq, reduceCtorEq, List.length_map]
  refine ⟨⟨by omega, rfl⟩, ?_⟩
  refine lc_mapA (prD2 ps qs) (fun x => .str (nmAt qs x.2)) _ (fun x _ => ?_) ?_
  · show Wo (gTN 2 _ [_, some (.val (.int 1)), none]) _
    simp only [backE, wipeE, wo_some, wo_none, wm_c, wm_var, wm_frz, wm_bin, wm_un, wm_tst, wm_tru, wm_truB, wm_chain, wm_and, wm_or, wm_not, wm_andV, wm_orV, wm_notV, wm_ifE, wm_nil, wm_cons, wm_app, wm_noP, wm_part, wm_sl, wm_pk, wm_io, wm_ix, wm_inB, wm_true, wm_seq, wm_rng1, wm_rng2,
  then_nx, then_ret, then_rof, then_brk, then_cnt, ws_next, ws_brk, ws_cnt, ws_seq, ws_if, ws_ret, ws_rof, ws_drop, ws_set, ws_own, ws_asg, wo_TN, wo_TNil, wo_TCons, wo_TTup, ws_ap, ws_setIx, ws_for, for_nil, turn_nx, turn_cnt, turn_brk, turn_ret, turn_rof, wm_lc, end_ret, end_nx, end_rof, end_io, ownOf_own, valOf_val, frz_val, frz_own, cOwn_own, peek_val, peek_own, by_val, by_own, canSet_none, canSet_val, canSet_own, lstOf_list,
  List.getElem?_cons_zero, List.getElem?_cons_succ, List.set_cons_zero, List.set_cons_succ, List.length_cons, List.length_nil, wo_ite, wo_bind, ↓reduceIte, and_true, true_and, and_self, Bool.false_eq_true, Bool.not_true, Bool.not_false, decide_eq_true_eq, decide_true, decide_false, oneInt_int, twoInts_int,
  add_ii, add_ll, add_tt, add_ss, sub_ii, mul_ii, mulS_ii, mod_ii, fdiv_ii, neg_i, le_ii, gt_ii, ge_ii, eqT_ii, eqT_ss, eqT_bb, eqT_nn, ltT_ii, ltT_ss, wo_eqD, wo_neD, wo_ltD, wo_inD, wo_ninD, is_n, isnt_n, is_bb, isnt_bb, isN, bOf_b, iOf_i, tru_b, tru_n, tru_i, tru_l, tru_t, seq_l, seq_t, tup_l, tup_t, lst_l, lst_t, len_l, len_t, int_i, int_b, abs_i, max_ii, min_ii, ix_li, ix_ti, cut_l, cut_t, flat_i, flat_b, flat_s, ix0, ix1, ix2, mkTup, mkLst,
  ws_par3, three_c, ws_grp, empty_own, lOwnD_own, wm_lcW, wm_getD, wm_ind, ix3, ix4, ix_m2, ix_m1, ix_p2, ix_p1, wm_newD, ws_setK, wm_get, wm_ixK, wm_sortN, ws_ext, dOwn_own, lOwn_own, lsD_list, step_nx, step_cnt, step_brk, step_ret, step_rof, wm_reve, rev_l, rev_t, wm_opBL, repr_l, sort_l, sum_l, wm_enum, enum_l, enum_t, enumL_nil, wm_dic, wm_kvn, wm_kvc, seq_s, mulT_si, len_s, ord_c, str_i, ty_d, k_lb, k_li, k_ls, k_tb, k_ti, k_ts, k_db, k_di, k_ds, k_lt, k_tl,
  isi_1, tyOk_n, tyOk_b, tyOk_i, tyOk_s, tyOk_l, tyOk_t, ty_n, ty_b, ty_i, ty_s, ty_l, ty_t, k_nb, k_bb, k_ib, k_sb, k_ni, k_bi, k_ii, k_si, k_ns, k_bs, k_is, k_ss, k_ll, k_tt,
  Int.reduceNeg, Int.reducePow, Int.reduceLT, Int.reduceLE, Int.reduceAdd, Int.reduceSub, Int.reduceMul, Int.reduceToNat, Nat.reduceAdd, Nat.reduceLeDiff, Nat.reduceEqDiff, Int.reduceEq, reduceCtorEq, prD2]
    all_goals rfl
  · rw [List.map_map]
    rfl
theorem sp_place_of {ps : List (Str × Str)} {os : List Nat} {d cd : D} {r : List D} (hix : ixD d (.int (-2)) = some (.tuple r)) (hcd : seqOf cd = some (os.map fun o => .str (nmAt ps o))) (hn : (ps.map (·.1)).Nodup) (hr : okR r) (hlr : r.length = ps.length) (ho : ∀ o ∈ os, o < ps.length) (hl : os.length ≤ 1000) :
    f_place_of [d, .tuple (ps.map fdD), cd] = some (kyR (kfo os r)) := by
  rw [← wo_eq]
  unfold f_place_of
  rw [wo_runV]
  show Ws g_place_of [some (.val d), some (.val (.tuple (ps.map fdD))), some (.val cd)] _
  unfold g_place_of
  simp only [backE, wipeE, wo_some, wo_none, wm_c, wm_var, wm_frz, wm_bin, wm_un, wm_tst, wm_tru, wm_truB, wm_chain, wm_and, wm_or, wm_not, wm_andV, wm_orV, wm_notV, wm_ifE, wm_nil, wm_cons, wm_app, wm_noP, wm_part, wm_sl, wm_pk, wm_io, wm_ix, wm_inB, wm_true, wm_seq, wm_rng1, wm_rng2,
  then_nx, then_ret, then_rof, then_brk, then_cnt, ws_next, ws_brk, ws_cnt, ws_seq, ws_if, ws_ret, ws_rof, ws_drop, ws_set, ws_own, ws_asg, wo_TN, wo_TNil, wo_TCons, wo_TTup, ws_ap, ws_setIx, ws_for, for_nil, turn_nx, turn_cnt, turn_brk, turn_ret, turn_rof, wm_lc, end_ret, end_nx, end_rof, end_io, ownOf_own, valOf_val, frz_val, frz_own, cOwn_own, peek_val, peek_own, by_val, by_own, canSet_none, canSet_val, canSet_own, lstOf_list,
  List.getElem?_cons_zero, List.getElem?_cons_succ, List.set_cons_zero, List.set_cons_succ, List.length_cons, List.length_nil, wo_ite, wo_bind, ↓reduceIte, and_true, true_and, and_self, Bool.false_eq_true, Bool.not_true, Bool.not_false, decide_eq_true_eq, decide_true, decide_false, oneInt_int, twoInts_int,
  add_ii, add_ll, add_tt, add_ss, sub_ii, mul_ii, mulS_ii, mod_ii, fdiv_ii, neg_i, le_ii, gt_ii, ge_ii, eqT_ii, eqT_ss, eqT_bb, eqT_nn, ltT_ii, ltT_ss, wo_eqD, wo_neD, wo_ltD, wo_inD, wo_ninD, is_n, isnt_n, is_bb, isnt_bb, isN, bOf_b, iOf_i, tru_b, tru_n, tru_i, tru_l, tru_t, seq_l, seq_t, tup_l, tup_t, lst_l, lst_t, len_l, len_t, int_i, int_b, abs_i, max_ii, min_ii, ix_li, ix_ti, cut_l, cut_t, flat_i, flat_b, flat_s, ix0, ix1, ix2, mkTup, mkLst,
  ws_par3, three_c, ws_grp, empty_own, lOwnD_own, wm_lcW, wm_getD, wm_ind, ix3, ix4, ix_m2, ix_m1, ix_p2, ix_p1, wm_newD, ws_setK, wm_get, wm_ixK, wm_sortN, ws_ext, dOwn_own, lOwn_own, lsD_list, step_nx, step_cnt, step_brk, step_ret, step_rof, wm_reve, rev_l, rev_t, wm_opBL, repr_l, sort_l, sum_l, wm_enum, enum_l, enum_t, enumL_nil, wm_dic, wm_kvn, wm_kvc, seq_s, mulT_si, len_s, ord_c, str_i, ty_d, k_lb, k_li, k_ls, k_tb, k_ti, k_ts, k_db, k_di, k_ds, k_lt, k_tl,
  isi_1, tyOk_n, tyOk_b, tyOk_i, tyOk_s, tyOk_l, tyOk_t, ty_n, ty_b, ty_i, ty_s, ty_l, ty_t, k_nb, k_bb, k_ib, k_sb, k_ni, k_bi, k_ii, k_si, k_ns, k_bs, k_is, k_ss, k_ll, k_tt,
  Int.reduceNeg, Int.reducePow, Int.reduceLT, Int.reduceLE, Int.reduceAdd, Int.reduceSub, Int.reduceMul, Int.reduceToNat, Nat.reduceAdd, Nat.reduceLeDiff, Nat.reduceEqDiff, Int.reduceEq, reduceCtorEq, hix]
  refine wo_place hcd hn hr hlr ho hl ?_
  simp only [backE, wipeE, wo_some, wo_none, wm_c, wm_var, wm_frz, wm_bin, wm_un, wm_tst, wm_tru, wm_truB, wm_chain, wm_and, wm_or, wm_not, wm_andV, wm_orV, wm_notV, wm_ifE, wm_nil, wm_cons, wm_app, wm_noP, wm_part, wm_sl, wm_pk, wm_io, wm_ix, wm_inB, wm_true, wm_seq, wm_rng1, wm_rng2,
  then_nx, then_ret, then_rof, then_brk, then_cnt, ws_next, ws_brk, ws_cnt, ws_seq, ws_if, ws_ret, ws_rof, ws_drop, ws_set, ws_own, ws_asg, wo_TN, wo_TNil, wo_TCons, wo_TTup, ws_ap, ws_setIx, ws_for, for_nil, turn_nx, turn_cnt, turn_brk, turn_ret, turn_rof, wm_lc, end_ret, end_nx, end_rof, end_io, ownOf_own, valOf_val, frz_val, frz_own, cOwn_own, peek_val, peek_own, by_val, by_own, canSet_none, canSet_val, canSet_own, lstOf_list,
  List.getElem?_cons_zero, List.getElem?_cons_succ, List.set_cons_zero, List.set_cons_succ, List.length_cons, List.length_nil, wo_ite, wo_bind, ↓reduceIte, and_true, true_and, and_self, Bool.false_eq_true, Bool.not_true, Bool.not_false, decide_eq_true_eq, decide_true, decide_false, oneInt_int, twoInts_int,
  add_ii, add_ll, add_tt, add_ss, sub_ii, mul_ii, mulS_ii, mod_ii, fdiv_ii, neg_i, le_ii, gt_ii, ge_ii, eqT_ii, eqT_ss, eqT_bb, eqT_nn, ltT_ii, ltT_ss, wo_eqD, wo_neD, wo_ltD, wo_inD, wo_ninD, is_n, isnt_n, is_bb, isnt_bb, isN, bOf_b, iOf_i, tru_b, tru_n, tru_i, tru_l, tru_t, seq_l, seq_t, tup_l, tup_t, lst_l, lst_t, len_l, len_t, int_i, int_b, abs_i, max_ii, min_ii, ix_li, ix_ti, cut_l, cut_t, flat_i, flat_b, flat_s, ix0, ix1, ix2, mkTup, mkLst,
  ws_par3, three_c, ws_grp, empty_own, lOwnD_own, wm_lcW, wm_getD, wm_ind, ix3, ix4, ix_m2, ix_m1, ix_p2, ix_p1, wm_newD, ws_setK, wm_get, wm_ixK, wm_sortN, ws_ext, dOwn_own, lOwn_own, lsD_list, step_nx, step_cnt, step_brk, step_ret, step_rof, wm_reve, rev_l, rev_t, wm_opBL, repr_l, sort_l, sum_l, wm_enum, enum_l, enum_t, enumL_nil, wm_dic, wm_kvn, wm_kvc, seq_s, mulT_si, len_s, ord_c, str_i, ty_d, k_lb, k_li, k_ls, k_tb, k_ti, k_ts, k_db, k_di, k_ds, k_lt, k_tl,
  isi_1, tyOk_n, tyOk_b, tyOk_i, tyOk_s, tyOk_l, tyOk_t, ty_n, ty_b, ty_i, ty_s, ty_l, ty_t, k_nb, k_bb, k_ib, k_sb, k_ni, k_bi, k_ii, k_si, k_ns, k_bs, k_is, k_ss, k_ll, k_tt,
  Int.reduceNeg, Int.reducePow, Int.reduceLT, Int.reduceLE, Int.reduceAdd, Int.reduceSub, Int.reduceMul, Int.reduceToNat, Nat.reduceAdd, Nat.reduceLeDiff, Nat.reduceEqDiff, Int.reduceEq, reduceCtorEq]
section
variable {α : Type} {h : α → D} {row : α → List D} {os : List Nat} {ps : List (Str × Str)}
theorem sp_partners {xs : List α} {cd : D} (hcd : seqOf cd = some (os.map fun o => .str (nmAt ps o))) (hn : (ps.map (·.1)).Nodup) (hrow : ∀ x ∈ xs, okR (row x) ∧ (row x).length = ps.length) (ho : ∀ o ∈ os, o < ps.length) (hl : os.length ≤ 1000) (hxl : xs.length ≤ 1000000)
    (hix : ∀ x ∈ xs, ixD (h x) (.int (-2)) = some (.tuple (row x))) : f_partners [.list (xs.map h), .tuple (ps.map fdD), cd] = some (.dict (grpE (fun x => kfo os (row x)) h xs)) := by
  have hall := grp_all hrow ho hl
  rw [← wo_eq]
  unfold f_partners
  rw [wo_runV]
  show Ws g_partners [some (.val (.list (xs.map h))), some (.val (.tuple (ps.map fdD))), some (.val cd), none, none, none] _
  unfold g_partners
  simp only [backE, wipeE, wo_some, wo_none, wm_c, wm_var, wm_frz, wm_bin, wm_un, wm_tst, wm_tru, wm_truB, wm_chain, wm_and, wm_or, wm_not, wm_andV, wm_orV, wm_notV, wm_ifE, wm_nil, wm_cons, wm_app, wm_noP, wm_part, wm_sl, wm_pk, wm_io, wm_ix, wm_inB, wm_true, wm_seq, wm_rng1, wm_rng2,
  then_nx, then_ret, then_rof, then_brk, then_cnt, ws_next, ws_brk, ws_cnt, ws_seq, ws_if, ws_ret, ws_rof, ws_drop, ws_set, ws_own, ws_asg, wo_TN, wo_TNil, wo_TCons, wo_TTup, ws_ap, ws_setIx, ws_for, for_nil, turn_nx, turn_cnt, turn_brk, turn_ret, turn_rof, wm_lc, end_ret, end_nx, end_rof, end_io, ownOf_own, valOf_val, frz_val, frz_own, cOwn_own, peek_val, peek_own, by_val, by_own, canSet_none, canSet_val, canSet_own, lstOf_list,
  List.getElem?_cons_zero, List.getElem?_cons_succ, List.set_cons_zero, List.set_cons_succ, List.length_cons, List.length_nil, wo_ite, wo_bind, ↓reduceIte, and_true, true_and, and_self, Bool.false_eq_true, Bool.not_true, Bool.not_false, decide_eq_true_eq, decide_true, decide_false, oneInt_int, twoInts_int,
  add_ii, add_ll, add_tt, add_ss, sub_ii, mul_ii, mulS_ii, mod_ii, fdiv_ii, neg_i, le_ii, gt_ii, ge_ii, eqT_ii, eqT_ss, eqT_bb, eqT_nn, ltT_ii, ltT_ss, wo_eqD, wo_neD, wo_ltD, wo_inD, wo_ninD, is_n, isnt_n, is_bb, isnt_bb, isN, bOf_b, iOf_i, tru_b, tru_n, tru_i, tru_l, tru_t, seq_l, seq_t, tup_l, tup_t, lst_l, lst_t, len_l, len_t, int_i, int_b, abs_i, max_ii, min_ii, ix_li, ix_ti, cut_l, cut_t, flat_i, flat_b, flat_s, ix0, ix1, ix2, mkTup, mkLst,
  ws_par3, three_c, ws_grp, empty_own, lOwnD_own, wm_lcW, wm_getD, wm_ind, ix3, ix4, ix_m2, ix_m1, ix_p2, ix_p1, wm_newD, ws_setK, wm_get, wm_ixK, wm_sortN, ws_ext, dOwn_own, lOwn_own, lsD_list, step_nx, step_cnt, step_brk, step_ret, step_rof, wm_reve, rev_l, rev_t, wm_opBL, repr_l, sort_l, sum_l, wm_enum, enum_l, enum_t, enumL_nil, wm_dic, wm_kvn, wm_kvc, seq_s, mulT_si, len_s, ord_c, str_i, ty_d, k_lb, k_li, k_ls, k_tb, k_ti, k_ts, k_db, k_di, k_ds, k_lt, k_tl,
  isi_1, tyOk_n, tyOk_b, tyOk_i, tyOk_s, tyOk_l, tyOk_t, ty_n, ty_b, ty_i, ty_s, ty_l, ty_t, k_nb, k_bb, k_ib, k_sb, k_ni, k_bi, k_ii, k_si, k_ns, k_bs, k_is, k_ss, k_ll, k_tt,
  Int.reduceNeg, Int.reducePow, Int.reduceLT, Int.reduceLE, Int.reduceAdd, Int.reduceSub, Int.reduceMul, Int.reduceToNat, Nat.reduceAdd, Nat.reduceLeDiff, Nat.reduceEqDiff, Int.reduceEq, reduceCtorEq]
  refine grp_forA h (grpE (fun x => kfo os (row x)) h) (fun p ρ => ∃ (o4 o5 : Option Cell), (canSet (some o4) = some () ∧ canSet (some o5) = some ()) ∧ ρ = [some (.val (.list (xs.map h))), some (.val (.tuple (ps.map fdD))), some (.val cd), none, o4, o5]) (xs := xs) ⟨none, none, ⟨rfl, rfl⟩, rfl⟩ ?_ ?_
  · rintro q x r ρ e ⟨o4, o5, ⟨h4, h5⟩, rfl⟩
    have hx : x ∈ xs := by rw [e]; simp
    have hq := congrArg List.length e
    rw [List.length_append, List.length_cons] at hq
    have hgl := grpE_len (f := fun x => kfo os (row x)) (h := h) (xs := q) (kfo os (row x))
    have hkl : (grpE (fun x => kfo os (row x)) h q).length ≤ q.length := by
      unfold grpE
      rw [List.length_map]
      exact (keysOf_facts fun y hy => hall y (by rw [e]; exact List.mem_append_left _ hy)).2.2
    simp only [backE, wipeE, wo_some, wo_none, wm_c, wm_var, wm_frz, wm_bin, wm_un, wm_tst, wm_tru, wm_truB, wm_chain, wm_and, wm_or, wm_not, wm_andV, wm_orV, wm_notV, wm_ifE, wm_nil, wm_cons, wm_app, wm_noP, wm_part, wm_sl, wm_pk, wm_io, wm_ix, wm_inB, wm_true, wm_seq, wm_rng1, wm_rng2,
  then_nx, then_ret, then_rof, then_brk, then_cnt, ws_next, ws_brk, ws_cnt, ws_seq, ws_if, ws_ret, ws_rof, ws_drop, ws_set, ws_own, ws_asg, wo_TN, wo_TNil, wo_TCons, wo_TTup, ws_ap, ws_setIx, ws_for, for_nil, turn_nx, turn_cnt, turn_brk, turn_ret, turn_rof, wm_lc, end_ret, end_nx, end_rof, end_io, ownOf_own, valOf_val, frz_val, frz_own, cOwn_own, peek_val, peek_own, by_val, by_own, canSet_none, canSet_val, canSet_own, lstOf_list,
  List.getElem?_cons_zero, List.getElem?_cons_succ, List.set_cons_zero, List.set_cons_succ, List.length_cons, List.length_nil, wo_ite, wo_bind, ↓reduceIte, and_true, true_and, and_self, Bool.false_eq_true, Bool.not_true, Bool.not_false, decide_eq_true_eq, decide_true, decide_false, oneInt_int, twoInts_int,
  add_ii, add_ll, add_tt, add_ss, sub_ii, mul_ii, mulS_ii, mod_ii, fdiv_ii, neg_i, le_ii, gt_ii, ge_ii, eqT_ii, eqT_ss, eqT_bb, eqT_nn, ltT_ii, ltT_ss, wo_eqD, wo_neD, wo_ltD, wo_inD, wo_ninD, is_n, isnt_n, is_bb, isnt_bb, isN, bOf_b, iOf_i, tru_b, tru_n, tru_i, tru_l, tru_t, seq_l, seq_t, tup_l, tup_t, lst_l, lst_t, len_l, len_t, int_i, int_b, abs_i, max_ii, min_ii, ix_li, ix_ti, cut_l, cut_t, flat_i, flat_b, flat_s, ix0, ix1, ix2, mkTup, mkLst,
  ws_par3, three_c, ws_grp, empty_own, lOwnD_own, wm_lcW, wm_getD, wm_ind, ix3, ix4, ix_m2, ix_m1, ix_p2, ix_p1, wm_newD, ws_setK, wm_get, wm_ixK, wm_sortN, ws_ext, dOwn_own, lOwn_own, lsD_list, step_nx, step_cnt, step_brk, step_ret, step_rof, wm_reve, rev_l, rev_t, wm_opBL, repr_l, sort_l, sum_l, wm_enum, enum_l, enum_t, enumL_nil, wm_dic, wm_kvn, wm_kvc, seq_s, mulT_si, len_s, ord_c, str_i, ty_d, k_lb, k_li, k_ls, k_tb, k_ti, k_ts, k_db, k_di, k_ds, k_lt, k_tl,
  isi_1, tyOk_n, tyOk_b, tyOk_i, tyOk_s, tyOk_l, tyOk_t, ty_n, ty_b, ty_i, ty_s, ty_l, ty_t, k_nb, k_bb, k_ib, k_sb, k_ni, k_bi, k_ii, k_si, k_ns, k_bs, k_is, k_ss, k_ll, k_tt,
  Int.reduceNeg, Int.reducePow, Int.reduceLT, Int.reduceLE, Int.reduceAdd, Int.reduceSub, Int.reduceMul, Int.reduceToNat, Nat.reduceAdd, Nat.reduceLeDiff, Nat.reduceEqDiff, Int.reduceEq, reduceCtorEq, h4, hix x hx]
    refine wo_place hcd hn (hrow x hx).1 (hrow x hx).2 ho hl ?_
    simp only [backE, wipeE, wo_some, wo_none, wm_c, wm_var, wm_frz, wm_bin, wm_un, wm_tst, wm_tru, wm_truB, wm_chain, wm_and, wm_or, wm_not, wm_andV, wm_orV, wm_notV, wm_ifE, wm_nil, wm_cons, wm_app, wm_noP, wm_part, wm_sl, wm_pk, wm_io, wm_ix, wm_inB, wm_true, wm_seq, wm_rng1, wm_rng2,
  then_nx, then_ret, then_rof, then_brk, then_cnt, ws_next, ws_brk, ws_cnt, ws_seq, ws_if, ws_ret, ws_rof, ws_drop, ws_set, ws_own, ws_asg, wo_TN, wo_TNil, wo_TCons, wo_TTup, ws_ap, ws_setIx, ws_for, for_nil, turn_nx, turn_cnt, turn_brk, turn_ret, turn_rof, wm_lc, end_ret, end_nx, end_rof, end_io, ownOf_own, valOf_val, frz_val, frz_own, cOwn_own, peek_val, peek_own, by_val, by_own, canSet_none, canSet_val, canSet_own, lstOf_list,
  List.getElem?_cons_zero, List.getElem?_cons_succ, List.set_cons_zero, List.set_cons_succ, List.length_cons, List.length_nil, wo_ite, wo_bind, ↓reduceIte, and_true, true_and, and_self, Bool.false_eq_true, Bool.not_true, Bool.not_false, decide_eq_true_eq, decide_true, decide_false, oneInt_int, twoInts_int,
  add_ii, add_ll, add_tt, add_ss, sub_ii, mul_ii, mulS_ii, mod_ii, fdiv_ii, neg_i, le_ii, gt_ii, ge_ii, eqT_ii, eqT_ss, eqT_bb, eqT_nn, ltT_ii, ltT_ss, wo_eqD, wo_neD, wo_ltD, wo_inD, wo_ninD, is_n, isnt_n, is_bb, isnt_bb, isN, bOf_b, iOf_i, tru_b, tru_n, tru_i, tru_l, tru_t, seq_l, seq_t, tup_l, tup_t, lst_l, lst_t, len_l, len_t, int_i, int_b, abs_i, max_ii, min_ii, ix_li, ix_ti, cut_l, cut_t, flat_i, flat_b, flat_s, ix0, ix1, ix2, mkTup, mkLst,
  ws_par3, three_c, ws_grp, empty_own, lOwnD_own, wm_lcW, wm_getD, wm_ind, ix3, ix4, ix_m2, ix_m1, ix_p2, ix_p1, wm_newD, ws_setK, wm_get, wm_ixK, wm_sortN, ws_ext, dOwn_own, lOwn_own, lsD_list, step_nx, step_cnt, step_brk, step_ret, step_rof, wm_reve, rev_l, rev_t, wm_opBL, repr_l, sort_l, sum_l, wm_enum, enum_l, enum_t, enumL_nil, wm_dic, wm_kvn, wm_kvc, seq_s, mulT_si, len_s, ord_c, str_i, ty_d, k_lb, k_li, k_ls, k_tb, k_ti, k_ts, k_db, k_di, k_ds, k_lt, k_tl,
  isi_1, tyOk_n, tyOk_b, tyOk_i, tyOk_s, tyOk_l, tyOk_t, ty_n, ty_b, ty_i, ty_s, ty_l, ty_t, k_nb, k_bb, k_ib, k_sb, k_ni, k_bi, k_ii, k_si, k_ns, k_bs, k_is, k_ss, k_ll, k_tt,
  Int.reduceNeg, Int.reducePow, Int.reduceLT, Int.reduceLE, Int.reduceAdd, Int.reduceSub, Int.reduceMul, Int.reduceToNat, Nat.reduceAdd, Nat.reduceLeDiff, Nat.reduceEqDiff, Int.reduceEq, reduceCtorEq, h5]
    obtain ⟨nn, hnn⟩ := nk_kyR (hall x hx)
    refine ⟨⟨rfl, by rw [hnn]; rfl, by omega, by omega⟩, grpE_snoc fun y hy => hall y (by rw [e]; rcases List.mem_append.mp hy with h | h; exact List.mem_append_left _ h; rw [List.mem_singleton.mp h]; simp), _, _, ⟨rfl, rfl⟩, rfl⟩
  · rintro ρ' ⟨o4, o5, ⟨h4, h5⟩, rfl⟩
    simp only [backE, wipeE, wo_some, wo_none, wm_c, wm_var, wm_frz, wm_bin, wm_un, wm_tst, wm_tru, wm_truB, wm_chain, wm_and, wm_or, wm_not, wm_andV, wm_orV, wm_notV, wm_ifE, wm_nil, wm_cons, wm_app, wm_noP, wm_part, wm_sl, wm_pk, wm_io, wm_ix, wm_inB, wm_true, wm_seq, wm_rng1, wm_rng2,
  then_nx, then_ret, then_rof, then_brk, then_cnt, ws_next, ws_brk, ws_cnt, ws_seq, ws_if, ws_ret, ws_rof, ws_drop, ws_set, ws_own, ws_asg, wo_TN, wo_TNil, wo_TCons, wo_TTup, ws_ap, ws_setIx, ws_for, for_nil, turn_nx, turn_cnt, turn_brk, turn_ret, turn_rof, wm_lc, end_ret, end_nx, end_rof, end_io, ownOf_own, valOf_val, frz_val, frz_own, cOwn_own, peek_val, peek_own, by_val, by_own, canSet_none, canSet_val, canSet_own, lstOf_list,
  List.getElem?_cons_zero, List.getElem?_cons_succ, List.set_cons_zero, List.set_cons_succ, List.length_cons, List.length_nil, wo_ite, wo_bind, ↓reduceIte, and_true, true_and, and_self, Bool.false_eq_true, Bool.not_true, Bool.not_false, decide_eq_true_eq, decide_true, decide_false, oneInt_int, twoInts_int,
  add_ii, add_ll, add_tt, add_ss, sub_ii, mul_ii, mulS_ii, mod_ii, fdiv_ii, neg_i, le_ii, gt_ii, ge_ii, eqT_ii, eqT_ss, eqT_bb, eqT_nn, ltT_ii, ltT_ss, wo_eqD, wo_neD, wo_ltD, wo_inD, wo_ninD, is_n, isnt_n, is_bb, isnt_bb, isN, bOf_b, iOf_i, tru_b, tru_n, tru_i, tru_l, tru_t, seq_l, seq_t, tup_l, tup_t, lst_l, lst_t, len_l, len_t, int_i, int_b, abs_i, max_ii, min_ii, ix_li, ix_ti, cut_l, cut_t, flat_i, flat_b, flat_s, ix0, ix1, ix2, mkTup, mkLst,
  ws_par3, three_c, ws_grp, empty_own, lOwnD_own, wm_lcW, wm_getD, wm_ind, ix3, ix4, ix_m2, ix_m1, ix_p2, ix_p1, wm_newD, ws_setK, wm_get, wm_ixK, wm_sortN, ws_ext, dOwn_own, lOwn_own, lsD_list, step_nx, step_cnt, step_brk, step_ret, step_rof, wm_reve, rev_l, rev_t, wm_opBL, repr_l, sort_l, sum_l, wm_enum, enum_l, enum_t, enumL_nil, wm_dic, wm_kvn, wm_kvc, seq_s, mulT_si, len_s, ord_c, str_i, ty_d, k_lb, k_li, k_ls, k_tb, k_ti, k_ts, k_db, k_di, k_ds, k_lt, k_tl,
  isi_1, tyOk_n, tyOk_b, tyOk_i, tyOk_s, tyOk_l, tyOk_t, ty_n, ty_b, ty_i, ty_s, ty_l, ty_t, k_nb, k_bb, k_ib, k_sb, k_ni, k_bi, k_ii, k_si, k_ns, k_bs, k_is, k_ss, k_ll, k_tt,
  Int.reduceNeg, Int.reducePow, Int.reduceLT, Int.reduceLE, Int.reduceAdd, Int.reduceSub, Int.reduceMul, Int.reduceToNat, Nat.reduceAdd, Nat.reduceLeDiff, Nat.reduceEqDiff, Int.reduceEq, reduceCtorEq]
end
theorem get_grp {α : Type} {f : α → List D} {h : α → D} {xs : List α} {κ : List D} (hall : ∀ x ∈ xs, okR (f x)) (hκ : okR κ) : getG (.dict (grpE f h xs)) (kyR κ) (.list []) = some (.list ((inG f κ xs).map h)) := by
  obtain ⟨k1, k2, k3⟩ := keysOf_facts hall
  obtain ⟨nn, hnn⟩ := nk_kyR hκ
  show (if keysTup (grpE f h xs) = true ∧ keyTup (kyR κ) = true ∧ (nkD (kyR κ)).isSome = true then some ((atD (grpE f h xs) (kyR κ)).getD (.list [])) else none) = _
  rw [if_pos ⟨keysTup_map _, rfl, by rw [hnn]; rfl⟩]
  by_cases hin : κ ∈ keysOf f xs
  · have := atD_map (g := fun κ => .list ((inG f κ xs).map h)) k1 hin
    unfold grpE
    rw [this]
    rfl
  · have := atD_none (g := fun κ => .list ((inG f κ xs).map h)) hκ k1 hin
    have e : inG f κ xs = [] := List.filter_eq_nil_iff.mpr fun y hy q => hin (by
      rw [← (eqR_iff (hall y hy) hκ).mp q]
      exact k2 y hy)
    unfold grpE
    rw [this, e]
    rfl
theorem sp_nothing {qs : List (Str × Str)} (hl : qs.length ≤ 1000) : f_nothing [.tuple (qs.map fdD)] = some (.tuple (qs.map fun _ => PyData.none)) := by
  rw [← wo_eq]
  unfold f_nothing
  rw [wo_runV]
  show Ws g_nothing [some (.val (.tuple (qs.map fdD))), none] _
  unfold g_nothing
  simp only [backE, wipeE, wo_some, wo_none, wm_c, wm_var, wm_frz, wm_bin, wm_un, wm_tst, wm_tru, wm_truB, wm_chain, wm_and, wm_or, wm_not, wm_andV, wm_orV, wm_notV, wm_ifE, wm_nil, wm_cons, wm_app, wm_noP, wm_part, wm_sl, wm_pk, wm_io, wm_ix, wm_inB, wm_true, wm_seq, wm_rng1, wm_rng2,
  then_nx, then_ret, then_rof, then_brk, then_cnt, ws_next, ws_brk, ws_cnt, ws_seq, ws_if, ws_ret, ws_rof, ws_drop, ws_set, ws_own, ws_asg, wo_TN, wo_TNil, wo_TCons, wo_TTup, ws_ap, ws_setIx, ws_for, for_nil, turn_nx, turn_cnt, turn_brk, turn_ret, turn_rof, wm_lc, end_ret, end_nx, end_rof, end_io, ownOf_own, valOf_val, frz_val, frz_own, cOwn_own, peek_val, peek_own, by_val, by_own, canSet_none, canSet_val, canSet_own, lstOf_list,
  List.getElem?_cons_zero, List.getElem?_cons_succ, List.set_cons_zero, List.set_cons_succ, List.length_cons, List.length_nil, wo_ite, wo_bind, ↓reduceIte, and_true, true_and, and_self, Bool.false_eq_true, Bool.not_true, Bool.not_false, decide_eq_true_eq, decide_true, decide_false, oneInt_int, twoInts_int,
  add_ii, add_ll, add_tt, add_ss, sub_ii, mul_ii, mulS_ii, mod_ii, fdiv_ii, neg_i, le_ii, gt_ii, ge_ii, eqT_ii, eqT_ss, eqT_bb, eqT_nn, ltT_ii, ltT_ss, wo_eqD, wo_neD, wo_ltD, wo_inD, wo_ninD, is_n, isnt_n, is_bb, isnt_bb, isN, bOf_b, iOf_i, tru_b, tru_n, tru_i, tru_l, tru_t, seq_l, seq_t, tup_l, tup_t, lst_l, lst_t, len_l, len_t, int_i, int_b, abs_i, max_ii, min_ii, ix_li, ix_ti, cut_l, cut_t, flat_i, flat_b, flat_s, ix0, ix1, ix2, mkTup, mkLst,
  ws_par3, three_c, ws_grp, empty_own, lOwnD_own, wm_lcW, wm_getD, wm_ind, ix3, ix4, ix_m2, ix_m1, ix_p2, ix_p1, wm_newD, ws_setK, wm_get, wm_ixK, wm_sortN, ws_ext, dOwn_own, lOwn_own, lsD_list, step_nx, step_cnt, step_brk, step_ret, step_rof, wm_reve, rev_l, rev_t, wm_opBL, repr_l, sort_l, sum_l, wm_enum, enum_l, enum_t, enumL_nil, wm_dic, wm_kvn, wm_kvc, seq_s, mulT_si, len_s, ord_c, str_i, ty_d, k_lb, k_li, k_ls, k_tb, k_ti, k_ts, k_db, k_di, k_ds, k_lt, k_tl,
  isi_1, tyOk_n, tyOk_b, tyOk_i, tyOk_s, tyOk_l, tyOk_t, ty_n, ty_b, ty_i, ty_s, ty_l, ty_t, k_nb, k_bb, k_ib, k_sb, k_ni, k_bi, k_ii, k_si, k_ns, k_bs, k_is, k_ss, k_ll, k_tt,
  Int.reduceNeg, Int.reducePow, Int.reduceLT, Int.reduceLE, Int.reduceAdd, Int.reduceSub, Int.reduceMul, Int.reduceToNat, Nat.reduceAdd, Nat.reduceLeDiff, Nat.reduceEqDiff, Int.reduceEq, reduceCtorEq, List.length_map]
  refine ⟨⟨by omega, rfl⟩, ?_⟩
  refine lc_mapA fdD (fun _ => PyData.none) _ (fun x _ => ?_) rfl
  show Wo (gTN 1 _ [_, none]) _
  simp only [backE, wipeE, wo_some, wo_none, wm_c, wm_var, wm_frz, wm_bin, wm_un, wm_tst, wm_tru, wm_truB, wm_chain, wm_and, wm_or, wm_not, wm_andV, wm_orV, wm_notV, wm_ifE, wm_nil, wm_cons, wm_app, wm_noP, wm_part, wm_sl, wm_pk, wm_io, wm_ix, wm_inB, wm_true, wm_seq, wm_rng1, wm_rng2,
  then_nx, then_ret, then_rof, then_brk, then_cnt, ws_next, ws_brk, ws_cnt, ws_seq, ws_if, ws_ret, ws_rof, ws_drop, ws_set, ws_own, ws_asg, wo_TN, wo_TNil, wo_TCons, wo_TTup, ws_ap, ws_setIx, ws_for, for_nil, turn_nx, turn_cnt, turn_brk, turn_ret, turn_rof, wm_lc, end_ret, end_nx, end_rof, end_io, ownOf_own, valOf_val, frz_val, frz_own, cOwn_own, peek_val, peek_own, by_val, by_own, canSet_none, canSet_val, canSet_own, lstOf_list,
  List.getElem?_cons_zero, List.getElem?_cons_succ, List.set_cons_zero, List.set_cons_succ, List.length_cons, List.length_nil, wo_ite, wo_bind, ↓reduceIte, and_true, true_and, and_self, Bool.false_eq_true, Bool.not_true, Bool.not_false, decide_eq_true_eq, decide_true, decide_false, oneInt_int, twoInts_int,
  add_ii, add_ll, add_tt, add_ss, sub_ii, mul_ii, mulS_ii, mod_ii, fdiv_ii, neg_i, le_ii, gt_ii, ge_ii, eqT_ii, eqT_ss, eqT_bb, eqT_nn, ltT_ii, ltT_ss, wo_eqD, wo_neD, wo_ltD, wo_inD, wo_ninD, is_n, isnt_n, is_bb, isnt_bb, isN, bOf_b, iOf_i, tru_b, tru_n, tru_i, tru_l, tru_t, seq_l, seq_t, tup_l, tup_t, lst_l, lst_t, len_l, len_t, int_i, int_b, abs_i, max_ii, min_ii, ix_li, ix_ti, cut_l, cut_t, flat_i, flat_b, flat_s, ix0, ix1, ix2, mkTup, mkLst,
  ws_par3, three_c, ws_grp, empty_own, lOwnD_own, wm_lcW, wm_getD, wm_ind, ix3, ix4, ix_m2, ix_m1, ix_p2, ix_p1, wm_newD, ws_setK, wm_get, wm_ixK, wm_sortN, ws_ext, dOwn_own, lOwn_own, lsD_list, step_nx, step_cnt, step_brk, step_ret, step_rof, wm_reve, rev_l, rev_t, wm_opBL, repr_l, sort_l, sum_l, wm_enum, enum_l, enum_t, enumL_nil, wm_dic, wm_kvn, wm_kvc, seq_s, mulT_si, len_s, ord_c, str_i, ty_d, k_lb, k_li, k_ls, k_tb, k_ti, k_ts, k_db, k_di, k_ds, k_lt, k_tl,
  isi_1, tyOk_n, tyOk_b, tyOk_i, tyOk_s, tyOk_l, tyOk_t, ty_n, ty_b, ty_i, ty_s, ty_l, ty_t, k_nb, k_bb, k_ib, k_sb, k_ni, k_bi, k_ii, k_si, k_ns, k_bs, k_is, k_ss, k_ll, k_tt,
  Int.reduceNeg, Int.reducePow, Int.reduceLT, Int.reduceLE, Int.reduceAdd, Int.reduceSub, Int.reduceMul, Int.reduceToNat, Nat.reduceAdd, Nat.reduceLeDiff, Nat.reduceEqDiff, Int.reduceEq, reduceCtorEq]
  all_goals rfl
theorem eq_nil_flow {F : List Mv} (h : okL F) : eqT (.list (F.map mvD)) (.list []) = some (decide (F.length = 0)) := by
  have all : ∀ {F : List Mv}, okL F → PyData.canLayAll0 (F.map mvD) = true ∧ PyData.depthAll (F.map mvD) ≤ 2 := by
    intro F
    induction F with
    | nil => exact fun _ => ⟨rfl, by simp [PyData.depthAll]⟩
    | cons x xs ih =>
      intro h
      obtain ⟨o1, o2⟩ := okL_cons.mp h
      obtain ⟨i2, i3⟩ := ih o2
      obtain ⟨m1, m2, m3⟩ := mv_facts o1
      rw [List.map_cons, PyData.canLayAll0, PyData.depthAll, m2, i2]
      exact ⟨rfl, by omega⟩
  obtain ⟨a2, a3⟩ := all h
  have hs : SeqAt.shaped (.list (F.map mvD)) = true := by
    unfold SeqAt.shaped
    rw [PyData.canLay0, PyData.depth, a2]
    simp
    omega
  have hs2 : SeqAt.shaped (.list []) = true := by decide
  show (if _ then _ else _) = _
  rw [if_pos ⟨hs, hs2⟩, PyData.eqv]
  cases F <;> rfl
theorem wt_bound {b : Int} {ms : List Mv} {k : Ky} (h : ∀ m ∈ ms, -b ≤ m.2 ∧ m.2 ≤ b) (hb : 0 ≤ b) : -(b * ms.length) ≤ wt ms k ∧ wt ms k ≤ b * ms.length := by
  induction ms with
  | nil => simp [wt_nil]
  | cons x xs ih =>
    obtain ⟨i1, i2⟩ := ih fun m hm => h m (List.mem_cons_of_mem _ hm)
    obtain ⟨x1, x2⟩ := h x List.mem_cons_self
    have e : b * ((x :: xs).length : Int) = b * xs.length + b := by
      rw [List.length_cons]
      push_cast
      rw [Int.mul_add, Int.mul_one]
    rw [wt_cons, e]
    split <;> omega

/-! events that are near -/
structure Nr where
  os1 : List Nat
  os2 : List Nat
  low : Int
  high : Int
  left : Bool
  nn : Nat
def joinM (m o : Mv) : Mv := ((if o.1.1 > m.1.1 then o.1.1 else m.1.1, m.1.2 ++ o.1.2), m.2 * o.2)
def closeB (N : Nr) (m o : Mv) : Bool := decide (m.1.1 + N.low ≤ o.1.1) && decide (o.1.1 ≤ m.1.1 + N.high)
def meetB (N : Nr) (m o : Mv) : Bool := eqR (kfo N.os2 o.1.2) (kfo N.os1 m.1.2)
def aloneM (N : Nr) (m : Mv) : Mv := ((if m.1.1 + N.high > m.1.1 then m.1.1 + N.high else m.1.1, m.1.2 ++ List.replicate N.nn PyData.none), m.2)
def metM (N : Nr) (B : List Mv) (m : Mv) : List Mv := (B.filter fun o => closeB N m o && meetB N m o).map (joinM m)
def nearM (N : Nr) (B : List Mv) (m : Mv) : List Mv := if (metM N B m).length = 0 ∧ N.left = true then [aloneM N m] else metM N B m
def nears (N : Nr) (A B : List Mv) : List Mv := (A.map (nearM N B)).flatten
def okB (b : Int) (n : Nat) (F : List Mv) : Prop := okL F ∧ ∀ m ∈ F, m.1.2.length = n ∧ -b ≤ m.2 ∧ m.2 ≤ b
theorem okL_join {m o : Mv} (hm : okK m.1) (ho : okK o.1) (h1 : m.1.2.length ≤ 100) (h2 : o.1.2.length ≤ 100) : okK (joinM m o).1 := by
  refine ⟨fun v hv => ?_, by show (m.1.2 ++ o.1.2).length ≤ 1000; rw [List.length_append]; omega⟩
  rcases List.mem_append.mp (show v ∈ m.1.2 ++ o.1.2 from hv) with h | h
  · exact hm.1 v h
  · exact ho.1 v h
theorem okL_alone {N : Nr} {m : Mv} (hm : okK m.1) (h1 : m.1.2.length ≤ 100) (h2 : N.nn ≤ 100) : okK (aloneM N m).1 := by
  refine ⟨fun v hv => ?_, by show (m.1.2 ++ List.replicate N.nn PyData.none).length ≤ 1000; rw [List.length_append, List.length_replicate]; omega⟩
  rcases List.mem_append.mp (show v ∈ m.1.2 ++ List.replicate N.nn PyData.none from hv) with h | h
  · exact hm.1 v h
  · rw [List.eq_of_mem_replicate h]
    exact gv_none
theorem metM_len (N : Nr) (B : List Mv) (m : Mv) : (metM N B m).length ≤ B.length := by
  unfold metM
  rw [List.length_map]
  exact List.length_filter_le _ _
theorem nearM_len (N : Nr) (B : List Mv) (m : Mv) : (nearM N B m).length ≤ B.length + 1 := by
  unfold nearM
  have := metM_len N B m
  split
  · simp
  · omega
theorem nears_ok {N : Nr} {A B : List Mv} {n1 n2 : Nat} {b : Int} (hA : okB b n1 A) (hB : okB b n2 B) (h1 : n1 ≤ 100) (h2 : n2 ≤ 100) (h3 : N.nn ≤ 100) : okL (nears N A B) := by
  intro x hx
  obtain ⟨F, hF, hxF⟩ := List.mem_flatten.mp hx
  obtain ⟨m, hm, rfl⟩ := List.mem_map.mp hF
  have om := hA.1 m hm
  have lm := (hA.2 m hm).1
  unfold nearM at hxF
  split at hxF
  · rw [List.mem_singleton.mp hxF]
    exact okL_alone om (by omega) h3
  · unfold metM at hxF
    obtain ⟨o, ho, rfl⟩ := List.mem_map.mp hxF
    have ho := (List.mem_filter.mp ho).1
    exact okL_join om (hB.1 o ho) (by omega) (by have := (hB.2 o ho).1; omega)
def kpS (left : Bool) : Str := if left = true then "left" else "inner"
theorem kp_left (left : Bool) : decide (kpS left = (Str.ofString "left")) = left := by
  cases left with
  | true => exact decide_eq_true rfl
  | false => exact decide_eq_false fun z => (str_ne (show "inner" ≠ "left" by decide)).mp z
theorem sp_near_moves {ps qs : List (Str × Str)} {pr : List (Nat × Nat)} {low high : Int} {left : Bool} {A B : List Mv} {b : Int} (hb : 0 ≤ b ∧ b ≤ 1000) (hA : okB b ps.length A) (hB : okB b qs.length B) (hAl : A.length ≤ 1000) (hBl : B.length ≤ 1000) (hp : ps.length ≤ 100) (hq : qs.length ≤ 100)
    (hnp : (ps.map (·.1)).Nodup) (hnq : (qs.map (·.1)).Nodup) (hpr : ∀ x ∈ pr, x.1 < ps.length ∧ x.2 < qs.length) (hprl : pr.length ≤ 100) :
    f_near_moves [.tuple [.str "near", .tuple (pr.map (prD2 ps qs)), .int low, .int high, .str (kpS left)], .list [.tuple (ps.map fdD), .tuple (qs.map fdD)], .list [.list (A.map mvD), .list (B.map mvD)]] = some (.list ((nears ⟨pr.map (·.1), pr.map (·.2), low, high, left, qs.length⟩ A B).map mvD)) := by
  have hos1 : ∀ o ∈ pr.map (·.1), o < ps.length := fun o ho => by
    obtain ⟨x, hx, rfl⟩ := List.mem_map.mp ho
    exact (hpr x hx).1
  have hos2 : ∀ o ∈ pr.map (·.2), o < qs.length := fun o ho => by
    obtain ⟨x, hx, rfl⟩ := List.mem_map.mp ho
    exact (hpr x hx).2
  have hl1 : (pr.map (·.1)).length ≤ 1000 := by rw [List.length_map]; omega
  have hl2 : (pr.map (·.2)).length ≤ 1000 := by rw [List.length_map]; omega
  have hrowB : ∀ x ∈ B, okR x.1.2 ∧ x.1.2.length = qs.length := fun x hx => ⟨hB.1 x hx, (hB.2 x hx).1⟩
  have hpart := sp_partners (h := mvD) (row := fun m : Mv => m.1.2) (xs := B) (os := pr.map (·.2)) (ps := qs) (cd := .list ((pr.map (·.2)).map fun o => .str (nmAt qs o))) rfl hnq hrowB hos2 hl2 (by omega) (fun m _ => rfl)
  have hallB := grp_all (row := fun m : Mv => m.1.2) hrowB hos2 hl2
  have hs0 := sp_side0 (ps := ps) (qs := qs) (pr := pr) (by omega)
  have hs1 := sp_side1 (ps := ps) (qs := qs) (pr := pr) (by omega)
  have hno := sp_nothing (qs := qs) (by omega)
  have hcst : (qs.map fun _ => PyData.none) = List.replicate qs.length PyData.none := List.map_const' ..
  rw [hcst] at hno
  rw [← wo_eq]
  unfold f_near_moves
  rw [wo_runV]
  show Ws g_near_moves [some (.val (.tuple [.str "near", .tuple (pr.map (prD2 ps qs)), .int low, .int high, .str (kpS left)])), some (.val (.list [.tuple (ps.map fdD), .tuple (qs.map fdD)])), some (.val (.list [.list (A.map mvD), .list (B.map mvD)])), none, none, none, none, none, none, none, none] _
  unfold g_near_moves
  simp only [backE, wipeE, wo_some, wo_none, wm_c, wm_var, wm_frz, wm_bin, wm_un, wm_tst, wm_tru, wm_truB, wm_chain, wm_and, wm_or, wm_not, wm_andV, wm_orV, wm_notV, wm_ifE, wm_nil, wm_cons, wm_app, wm_noP, wm_part, wm_sl, wm_pk, wm_io, wm_ix, wm_inB, wm_true, wm_seq, wm_rng1, wm_rng2,
  then_nx, then_ret, then_rof, then_brk, then_cnt, ws_next, ws_brk, ws_cnt, ws_seq, ws_if, ws_ret, ws_rof, ws_drop, ws_set, ws_own, ws_asg, wo_TN, wo_TNil, wo_TCons, wo_TTup, ws_ap, ws_setIx, ws_for, for_nil, turn_nx, turn_cnt, turn_brk, turn_ret, turn_rof, wm_lc, end_ret, end_nx, end_rof, end_io, ownOf_own, valOf_val, frz_val, frz_own, cOwn_own, peek_val, peek_own, by_val, by_own, canSet_none, canSet_val, canSet_own, lstOf_list,
  List.getElem?_cons_zero, List.getElem?_cons_succ, List.set_cons_zero, List.set_cons_succ, List.length_cons, List.length_nil, wo_ite, wo_bind, ↓reduceIte, and_true, true_and, and_self, Bool.false_eq_true, Bool.not_true, Bool.not_false, decide_eq_true_eq, decide_true, decide_false, oneInt_int, twoInts_int,
  add_ii, add_ll, add_tt, add_ss, sub_ii, mul_ii, mulS_ii, mod_ii, fdiv_ii, neg_i, le_ii, gt_ii, ge_ii, eqT_ii, eqT_ss, eqT_bb, eqT_nn, ltT_ii, ltT_ss, wo_eqD, wo_neD, wo_ltD, wo_inD, wo_ninD, is_n, isnt_n, is_bb, isnt_bb, isN, bOf_b, iOf_i, tru_b, tru_n, tru_i, tru_l, tru_t, seq_l, seq_t, tup_l, tup_t, lst_l, lst_t, len_l, len_t, int_i, int_b, abs_i, max_ii, min_ii, ix_li, ix_ti, cut_l, cut_t, flat_i, flat_b, flat_s, ix0, ix1, ix2, mkTup, mkLst,
  ws_par3, three_c, ws_grp, empty_own, lOwnD_own, wm_lcW, wm_getD, wm_ind, ix3, ix4, ix_m2, ix_m1, ix_p2, ix_p1, wm_newD, ws_setK, wm_get, wm_ixK, wm_sortN, ws_ext, dOwn_own, lOwn_own, lsD_list, step_nx, step_cnt, step_brk, step_ret, step_rof, wm_reve, rev_l, rev_t, wm_opBL, repr_l, sort_l, sum_l, wm_enum, enum_l, enum_t, enumL_nil, wm_dic, wm_kvn, wm_kvc, seq_s, mulT_si, len_s, ord_c, str_i, ty_d, k_lb, k_li, k_ls, k_tb, k_ti, k_ts, k_db, k_di, k_ds, k_lt, k_tl,
  isi_1, tyOk_n, tyOk_b, tyOk_i, tyOk_s, tyOk_l, tyOk_t, ty_n, ty_b, ty_i, ty_s, ty_l, ty_t, k_nb, k_bb, k_ib, k_sb, k_ni, k_bi, k_ii, k_si, k_ns, k_bs, k_is, k_ss, k_ll, k_tt,
  Int.reduceNeg, Int.reducePow, Int.reduceLT, Int.reduceLE, Int.reduceAdd, Int.reduceSub, Int.reduceMul, Int.reduceToNat, Nat.reduceAdd, Nat.reduceLeDiff, Nat.reduceEqDiff, Int.reduceEq, reduceCtorEq, hs1, hpart]
  generalize hN : (⟨pr.map (·.1), pr.map (·.2), low, high, left, qs.length⟩ : Nr) = N
  refine ws_forA mvD (fun p ρ => ∃ (o8 o9 o10 : Option Cell), (canSet (some o8) = some () ∧ canSet (some o9) = some () ∧ canSet (some o10) = some ()) ∧ ρ = [some (.val (.tuple [.str "near", .tuple (pr.map (prD2 ps qs)), .int low, .int high, .str (kpS left)])), some (.val (.list [.tuple (ps.map fdD), .tuple (qs.map fdD)])), some (.val (.list [.list (A.map mvD), .list (B.map mvD)])), some (.val (.tuple (pr.map (prD2 ps qs)))), some (.val (.int low)), some (.val (.int high)), some (.val (.dict (grpE (fun x : Mv => kfo (pr.map (·.2)) x.1.2) mvD B))), some (.own false (.list ((p.map (nearM N B)).flatten.map mvD))), o8, o9, o10]) ⟨none, none, none, ⟨rfl, rfl, rfl⟩, rfl⟩ ?_ ?_
  · rintro p m s ρ e ⟨o8, o9, o10, ⟨h8, h9, h10⟩, rfl⟩
    have hm : m ∈ A := by rw [e]; simp
    have om := hA.1 m hm
    have lm := (hA.2 m hm).1
    have wm := (hA.2 m hm).2
    have hpl := congrArg List.length e
    rw [List.length_append, List.length_cons] at hpl
    have hacc : (p.map (nearM N B)).flatten.length ≤ 1001 * p.length := by
      have := len_flat (n := 1001) (p := p.map (nearM N B)) fun y hy => by
        obtain ⟨z, _, rfl⟩ := List.mem_map.mp hy
        have := nearM_len N B z
        omega
      rw [List.length_map] at this
      exact this
    have happ : ((p ++ [m]).map (nearM N B)).flatten = (p.map (nearM N B)).flatten ++ nearM N B m := by simp
    rw [happ]
    generalize (p.map (nearM N B)).flatten = Acc at hacc ⊢
    have hκ : okR (kfo (pr.map (·.1)) m.1.2) := kfo_ok om hl1
    have hpo := sp_place_of (ps := ps) (os := pr.map (·.1)) (d := mvD m) (cd := .list ((pr.map (·.1)).map fun o => .str (nmAt ps o))) (r := m.1.2) rfl rfl hnp om lm hos1 hl1
    have hget := get_grp (f := fun x : Mv => kfo (pr.map (·.2)) x.1.2) (h := mvD) (xs := B) (fun x hx => hallB x hx) hκ
    simp only [backE, wipeE, wo_some, wo_none, wm_c, wm_var, wm_frz, wm_bin, wm_un, wm_tst, wm_tru, wm_truB, wm_chain, wm_and, wm_or, wm_not, wm_andV, wm_orV, wm_notV, wm_ifE, wm_nil, wm_cons, wm_app, wm_noP, wm_part, wm_sl, wm_pk, wm_io, wm_ix, wm_inB, wm_true, wm_seq, wm_rng1, wm_rng2,
  then_nx, then_ret, then_rof, then_brk, then_cnt, ws_next, ws_brk, ws_cnt, ws_seq, ws_if, ws_ret, ws_rof, ws_drop, ws_set, ws_own, ws_asg, wo_TN, wo_TNil, wo_TCons, wo_TTup, ws_ap, ws_setIx, ws_for, for_nil, turn_nx, turn_cnt, turn_brk, turn_ret, turn_rof, wm_lc, end_ret, end_nx, end_rof, end_io, ownOf_own, valOf_val, frz_val, frz_own, cOwn_own, peek_val, peek_own, by_val, by_own, canSet_none, canSet_val, canSet_own, lstOf_list,
  List.getElem?_cons_zero, List.getElem?_cons_succ, List.set_cons_zero, List.set_cons_succ, List.length_cons, List.length_nil, wo_ite, wo_bind, ↓reduceIte, and_true, true_and, and_self, Bool.false_eq_true, Bool.not_true, Bool.not_false, decide_eq_true_eq, decide_true, decide_false, oneInt_int, twoInts_int,
  add_ii, add_ll, add_tt, add_ss, sub_ii, mul_ii, mulS_ii, mod_ii, fdiv_ii, neg_i, le_ii, gt_ii, ge_ii, eqT_ii, eqT_ss, eqT_bb, eqT_nn, ltT_ii, ltT_ss, wo_eqD, wo_neD, wo_ltD, wo_inD, wo_ninD, is_n, isnt_n, is_bb, isnt_bb, isN, bOf_b, iOf_i, tru_b, tru_n, tru_i, tru_l, tru_t, seq_l, seq_t, tup_l, tup_t, lst_l, lst_t, len_l, len_t, int_i, int_b, abs_i, max_ii, min_ii, ix_li, ix_ti, cut_l, cut_t, flat_i, flat_b, flat_s, ix0, ix1, ix2, mkTup, mkLst,
  ws_par3, three_c, ws_grp, empty_own, lOwnD_own, wm_lcW, wm_getD, wm_ind, ix3, ix4, ix_m2, ix_m1, ix_p2, ix_p1, wm_newD, ws_setK, wm_get, wm_ixK, wm_sortN, ws_ext, dOwn_own, lOwn_own, lsD_list, step_nx, step_cnt, step_brk, step_ret, step_rof, wm_reve, rev_l, rev_t, wm_opBL, repr_l, sort_l, sum_l, wm_enum, enum_l, enum_t, enumL_nil, wm_dic, wm_kvn, wm_kvc, seq_s, mulT_si, len_s, ord_c, str_i, ty_d, k_lb, k_li, k_ls, k_tb, k_ti, k_ts, k_db, k_di, k_ds, k_lt, k_tl,
  isi_1, tyOk_n, tyOk_b, tyOk_i, tyOk_s, tyOk_l, tyOk_t, ty_n, ty_b, ty_i, ty_s, ty_l, ty_t, k_nb, k_bb, k_ib, k_sb, k_ni, k_bi, k_ii, k_si, k_ns, k_bs, k_is, k_ss, k_ll, k_tt,
  Int.reduceNeg, Int.reducePow, Int.reduceLT, Int.reduceLE, Int.reduceAdd, Int.reduceSub, Int.reduceMul, Int.reduceToNat, Nat.reduceAdd, Nat.reduceLeDiff, Nat.reduceEqDiff, Int.reduceEq, reduceCtorEq, h8, h9, hs0, hpo, hget]
    have hG : ∀ o ∈ inG (fun x : Mv => kfo (pr.map (·.2)) x.1.2) (kfo (pr.map (·.1)) m.1.2) B, o ∈ B := fun o ho => (List.mem_filter.mp ho).1
    have hGl : (inG (fun x : Mv => kfo (pr.map (·.2)) x.1.2) (kfo (pr.map (·.1)) m.1.2) B).length ≤ 1000 := Nat.le_trans (List.length_filter_le _ _) hBl
    have hmet : metM N B m = ((inG (fun x : Mv => kfo (pr.map (·.2)) x.1.2) (kfo (pr.map (·.1)) m.1.2) B).filter (closeB N m)).map (joinM m) := by
      unfold metM inG
      rw [List.filter_filter]
      subst hN
      rfl
    have hnear : nearM N B m = if (metM N B m).length = 0 ∧ N.left = true then [aloneM N m] else metM N B m := rfl
    rw [hmet] at hnear
    generalize inG (fun x : Mv => kfo (pr.map (·.2)) x.1.2) (kfo (pr.map (·.1)) m.1.2) B = G at hG hGl hnear
    refine ws_forA mvD (fun q ρ => ∃ (o10 : Option Cell), canSet (some o10) = some () ∧ ρ = [some (.val (.tuple [.str "near", .tuple (pr.map (prD2 ps qs)), .int low, .int high, .str (kpS left)])), some (.val (.list [.tuple (ps.map fdD), .tuple (qs.map fdD)])), some (.val (.list [.list (A.map mvD), .list (B.map mvD)])), some (.val (.tuple (pr.map (prD2 ps qs)))), some (.val (.int low)), some (.val (.int high)), some (.val (.dict (grpE (fun x : Mv => kfo (pr.map (·.2)) x.1.2) mvD B))), some (.own false (.list ((Acc ++ (q.filter (closeB N m)).map (joinM m)).map mvD))), some (.val (mvD m)), some (.val (.bool (decide (0 < (q.filter (closeB N m)).length)))), o10]) ⟨o10, h10, by simp⟩ ?_ ?_
    · clear h10
      rintro q o s' ρ e' ⟨o10, h10, rfl⟩
      have ho : o ∈ B := hG o (by rw [e']; simp)
      have oo := hB.1 o ho
      have lo := (hB.2 o ho).1
      have wo := (hB.2 o ho).2
      have hql := congrArg List.length e'
      rw [List.length_append, List.length_cons] at hql
      have hqf := List.length_filter_le (closeB N m) q
      have hlog : m.2.natAbs.log2 + o.2.natAbs.log2 < 1000000 := small_log ⟨by omega, by omega⟩ ⟨by omega, by omega⟩
      have hrl : m.1.2.length + o.1.2.length ≤ 16777216 := by omega
      have hal : (Acc ++ (q.filter (closeB N m)).map (joinM m)).length < 16777216 := by rw [List.length_append, List.length_map]; omega
      have hcl : closeB N m o = (decide (m.1.1 + low ≤ o.1.1) && decide (o.1.1 ≤ m.1.1 + high)) := by subst hN; rfl
      have hfa : (q ++ [o]).filter (closeB N m) = if closeB N m o = true then q.filter (closeB N m) ++ [o] else q.filter (closeB N m) := by
        rw [List.filter_append]
        by_cases z : closeB N m o = true
        · rw [if_pos z, List.filter_cons_of_pos z]
          rfl
        · rw [if_neg z, List.filter_cons_of_neg z, List.filter_nil, List.append_nil]
      rw [hfa]
      generalize q.filter (closeB N m) = Q at hal ⊢
      rw [hcl]
      by_cases c1 : m.1.1 + low ≤ o.1.1
      · by_cases c2 : o.1.1 ≤ m.1.1 + high
        · simp only [backE, wipeE, wo_some, wo_none, wm_c, wm_var, wm_frz, wm_bin, wm_un, wm_tst, wm_tru, wm_truB, wm_chain, wm_and, wm_or, wm_not, wm_andV, wm_orV, wm_notV, wm_ifE, wm_nil, wm_cons, wm_app, wm_noP, wm_part, wm_sl, wm_pk, wm_io, wm_ix, wm_inB, wm_true, wm_seq, wm_rng1, wm_rng2,
  then_nx, then_ret, then_rof, then_brk, then_cnt, ws_next, ws_brk, ws_cnt, ws_seq, ws_if, ws_ret, ws_rof, ws_drop, ws_set, ws_own, ws_asg, wo_TN, wo_TNil, wo_TCons, wo_TTup, ws_ap, ws_setIx, ws_for, for_nil, turn_nx, turn_cnt, turn_brk, turn_ret, turn_rof, wm_lc, end_ret, end_nx, end_rof, end_io, ownOf_own, valOf_val, frz_val, frz_own, cOwn_own, peek_val, peek_own, by_val, by_own, canSet_none, canSet_val, canSet_own, lstOf_list,
  List.getElem?_cons_zero, List.getElem?_cons_succ, List.set_cons_zero, List.set_cons_succ, List.length_cons, List.length_nil, wo_ite, wo_bind, ↓reduceIte, and_true, true_and, and_self, Bool.false_eq_true, Bool.not_true, Bool.not_false, decide_eq_true_eq, decide_true, decide_false, oneInt_int, twoInts_int,
  add_ii, add_ll, add_tt, add_ss, sub_ii, mul_ii, mulS_ii, mod_ii, fdiv_ii, neg_i, le_ii, gt_ii, ge_ii, eqT_ii, eqT_ss, eqT_bb, eqT_nn, ltT_ii, ltT_ss, wo_eqD, wo_neD, wo_ltD, wo_inD, wo_ninD, is_n, isnt_n, is_bb, isnt_bb, isN, bOf_b, iOf_i, tru_b, tru_n, tru_i, tru_l, tru_t, seq_l, seq_t, tup_l, tup_t, lst_l, lst_t, len_l, len_t, int_i, int_b, abs_i, max_ii, min_ii, ix_li, ix_ti, cut_l, cut_t, flat_i, flat_b, flat_s, ix0, ix1, ix2, mkTup, mkLst,
  ws_par3, three_c, ws_grp, empty_own, lOwnD_own, wm_lcW, wm_getD, wm_ind, ix3, ix4, ix_m2, ix_m1, ix_p2, ix_p1, wm_newD, ws_setK, wm_get, wm_ixK, wm_sortN, ws_ext, dOwn_own, lOwn_own, lsD_list, step_nx, step_cnt, step_brk, step_ret, step_rof, wm_reve, rev_l, rev_t, wm_opBL, repr_l, sort_l, sum_l, wm_enum, enum_l, enum_t, enumL_nil, wm_dic, wm_kvn, wm_kvc, seq_s, mulT_si, len_s, ord_c, str_i, ty_d, k_lb, k_li, k_ls, k_tb, k_ti, k_ts, k_db, k_di, k_ds, k_lt, k_tl,
  isi_1, tyOk_n, tyOk_b, tyOk_i, tyOk_s, tyOk_l, tyOk_t, ty_n, ty_b, ty_i, ty_s, ty_l, ty_t, k_nb, k_bb, k_ib, k_sb, k_ni, k_bi, k_ii, k_si, k_ns, k_bs, k_is, k_ss, k_ll, k_tt,
  Int.reduceNeg, Int.reducePow, Int.reduceLT, Int.reduceLE, Int.reduceAdd, Int.reduceSub, Int.reduceMul, Int.reduceToNat, Nat.reduceAdd, Nat.reduceLeDiff, Nat.reduceEqDiff, Int.reduceEq, reduceCtorEq, mvD, h10, c1, c2, hlog, hrl, List.length_map]
          refine ⟨hal, some (.val (mvD o)), rfl, ?_⟩
          simp [mvD, joinM]
        · simp only [backE, wipeE, wo_some, wo_none, wm_c, wm_var, wm_frz, wm_bin, wm_un, wm_tst, wm_tru, wm_truB, wm_chain, wm_and, wm_or, wm_not, wm_andV, wm_orV, wm_notV, wm_ifE, wm_nil, wm_cons, wm_app, wm_noP, wm_part, wm_sl, wm_pk, wm_io, wm_ix, wm_inB, wm_true, wm_seq, wm_rng1, wm_rng2,
  then_nx, then_ret, then_rof, then_brk, then_cnt, ws_next, ws_brk, ws_cnt, ws_seq, ws_if, ws_ret, ws_rof, ws_drop, ws_set, ws_own, ws_asg, wo_TN, wo_TNil, wo_TCons, wo_TTup, ws_ap, ws_setIx, ws_for, for_nil, turn_nx, turn_cnt, turn_brk, turn_ret, turn_rof, wm_lc, end_ret, end_nx, end_rof, end_io, ownOf_own, valOf_val, frz_val, frz_own, cOwn_own, peek_val, peek_own, by_val, by_own, canSet_none, canSet_val, canSet_own, lstOf_list,
  List.getElem?_cons_zero, List.getElem?_cons_succ, List.set_cons_zero, List.set_cons_succ, List.length_cons, List.length_nil, wo_ite, wo_bind, ↓reduceIte, and_true, true_and, and_self, Bool.false_eq_true, Bool.not_true, Bool.not_false, decide_eq_true_eq, decide_true, decide_false, oneInt_int, twoInts_int,
  add_ii, add_ll, add_tt, add_ss, sub_ii, mul_ii, mulS_ii, mod_ii, fdiv_ii, neg_i, le_ii, gt_ii, ge_ii, eqT_ii, eqT_ss, eqT_bb, eqT_nn, ltT_ii, ltT_ss, wo_eqD, wo_neD, wo_ltD, wo_inD, wo_ninD, is_n, isnt_n, is_bb, isnt_bb, isN, bOf_b, iOf_i, tru_b, tru_n, tru_i, tru_l, tru_t, seq_l, seq_t, tup_l, tup_t, lst_l, lst_t, len_l, len_t, int_i, int_b, abs_i, max_ii, min_ii, ix_li, ix_ti, cut_l, cut_t, flat_i, flat_b, flat_s, ix0, ix1, ix2, mkTup, mkLst,
  ws_par3, three_c, ws_grp, empty_own, lOwnD_own, wm_lcW, wm_getD, wm_ind, ix3, ix4, ix_m2, ix_m1, ix_p2, ix_p1, wm_newD, ws_setK, wm_get, wm_ixK, wm_sortN, ws_ext, dOwn_own, lOwn_own, lsD_list, step_nx, step_cnt, step_brk, step_ret, step_rof, wm_reve, rev_l, rev_t, wm_opBL, repr_l, sort_l, sum_l, wm_enum, enum_l, enum_t, enumL_nil, wm_dic, wm_kvn, wm_kvc, seq_s, mulT_si, len_s, ord_c, str_i, ty_d, k_lb, k_li, k_ls, k_tb, k_ti, k_ts, k_db, k_di, k_ds, k_lt, k_tl,
  isi_1, tyOk_n, tyOk_b, tyOk_i, tyOk_s, tyOk_l, tyOk_t, ty_n, ty_b, ty_i, ty_s, ty_l, ty_t, k_nb, k_bb, k_ib, k_sb, k_ni, k_bi, k_ii, k_si, k_ns, k_bs, k_is, k_ss, k_ll, k_tt,
  Int.reduceNeg, Int.reducePow, Int.reduceLT, Int.reduceLE, Int.reduceAdd, Int.reduceSub, Int.reduceMul, Int.reduceToNat, Nat.reduceAdd, Nat.reduceLeDiff, Nat.reduceEqDiff, Int.reduceEq, reduceCtorEq, mvD, h10, c1, c2]
          exact ⟨some (.val (mvD o)), rfl, by simp [mvD]⟩
      · simp only [backE, wipeE, wo_some, wo_none, wm_c, wm_var, wm_frz, wm_bin, wm_un, wm_tst, wm_tru, wm_truB, wm_chain, wm_and, wm_or, wm_not, wm_andV, wm_orV, wm_notV, wm_ifE, wm_nil, wm_cons, wm_app, wm_noP, wm_part, wm_sl, wm_pk, wm_io, wm_ix, wm_inB, wm_true, wm_seq, wm_rng1, wm_rng2,
  then_nx, then_ret, then_rof, then_brk, then_cnt, ws_next, ws_brk, ws_cnt, ws_seq, ws_if, ws_ret, ws_rof, ws_drop, ws_set, ws_own, ws_asg, wo_TN, wo_TNil, wo_TCons, wo_TTup, ws_ap, ws_setIx, ws_for, for_nil, turn_nx, turn_cnt, turn_brk, turn_ret, turn_rof, wm_lc, end_ret, end_nx, end_rof, end_io, ownOf_own, valOf_val, frz_val, frz_own, cOwn_own, peek_val, peek_own, by_val, by_own, canSet_none, canSet_val, canSet_own, lstOf_list,
  List.getElem?_cons_zero, List.getElem?_cons_succ, List.set_cons_zero, List.set_cons_succ, List.length_cons, List.length_nil, wo_ite, wo_bind, ↓reduceIte, and_true, true_and, and_self, Bool.false_eq_true, Bool.not_true, Bool.not_false, decide_eq_true_eq, decide_true, decide_false, oneInt_int, twoInts_int,
  add_ii, add_ll, add_tt, add_ss, sub_ii, mul_ii, mulS_ii, mod_ii, fdiv_ii, neg_i, le_ii, gt_ii, ge_ii, eqT_ii, eqT_ss, eqT_bb, eqT_nn, ltT_ii, ltT_ss, wo_eqD, wo_neD, wo_ltD, wo_inD, wo_ninD, is_n, isnt_n, is_bb, isnt_bb, isN, bOf_b, iOf_i, tru_b, tru_n, tru_i, tru_l, tru_t, seq_l, seq_t, tup_l, tup_t, lst_l, lst_t, len_l, len_t, int_i, int_b, abs_i, max_ii, min_ii, ix_li, ix_ti, cut_l, cut_t, flat_i, flat_b, flat_s, ix0, ix1, ix2, mkTup, mkLst,
  ws_par3, three_c, ws_grp, empty_own, lOwnD_own, wm_lcW, wm_getD, wm_ind, ix3, ix4, ix_m2, ix_m1, ix_p2, ix_p1, wm_newD, ws_setK, wm_get, wm_ixK, wm_sortN, ws_ext, dOwn_own, lOwn_own, lsD_list, step_nx, step_cnt, step_brk, step_ret, step_rof, wm_reve, rev_l, rev_t, wm_opBL, repr_l, sort_l, sum_l, wm_enum, enum_l, enum_t, enumL_nil, wm_dic, wm_kvn, wm_kvc, seq_s, mulT_si, len_s, ord_c, str_i, ty_d, k_lb, k_li, k_ls, k_tb, k_ti, k_ts, k_db, k_di, k_ds, k_lt, k_tl,
  isi_1, tyOk_n, tyOk_b, tyOk_i, tyOk_s, tyOk_l, tyOk_t, ty_n, ty_b, ty_i, ty_s, ty_l, ty_t, k_nb, k_bb, k_ib, k_sb, k_ni, k_bi, k_ii, k_si, k_ns, k_bs, k_is, k_ss, k_ll, k_tt,
  Int.reduceNeg, Int.reducePow, Int.reduceLT, Int.reduceLE, Int.reduceAdd, Int.reduceSub, Int.reduceMul, Int.reduceToNat, Nat.reduceAdd, Nat.reduceLeDiff, Nat.reduceEqDiff, Int.reduceEq, reduceCtorEq, mvD, h10, c1]
        exact ⟨some (.val (mvD o)), rfl, by simp [mvD]⟩
    · clear h10
      rintro ρ' ⟨o10, h10, rfl⟩
      have hGf := List.length_filter_le (closeB N m) G
      have hal : (Acc ++ (G.filter (closeB N m)).map (joinM m)).length < 16777216 := by rw [List.length_append, List.length_map]; omega
      have hrl : m.1.2.length + qs.length ≤ 16777216 := by omega
      have hleft : N.left = left := by subst hN; rfl
      have hnn : N.nn = qs.length := by subst hN; rfl
      have hhigh : N.high = high := by subst hN; rfl
      rw [hnear, hleft]
      rw [List.length_map]
      by_cases z : (G.filter (closeB N m)).length = 0
      · have zn : G.filter (closeB N m) = [] := List.eq_nil_of_length_eq_zero z
        rw [zn]
        have hz : decide (0 < ([] : List Mv).length) = false := rfl
        cases hl : left with
        | true =>
          have kp := kp_left true
          simp only [backE, wipeE, wo_some, wo_none, wm_c, wm_var, wm_frz, wm_bin, wm_un, wm_tst, wm_tru, wm_truB, wm_chain, wm_and, wm_or, wm_not, wm_andV, wm_orV, wm_notV, wm_ifE, wm_nil, wm_cons, wm_app, wm_noP, wm_part, wm_sl, wm_pk, wm_io, wm_ix, wm_inB, wm_true, wm_seq, wm_rng1, wm_rng2,
  then_nx, then_ret, then_rof, then_brk, then_cnt, ws_next, ws_brk, ws_cnt, ws_seq, ws_if, ws_ret, ws_rof, ws_drop, ws_set, ws_own, ws_asg, wo_TN, wo_TNil, wo_TCons, wo_TTup, ws_ap, ws_setIx, ws_for, for_nil, turn_nx, turn_cnt, turn_brk, turn_ret, turn_rof, wm_lc, end_ret, end_nx, end_rof, end_io, ownOf_own, valOf_val, frz_val, frz_own, cOwn_own, peek_val, peek_own, by_val, by_own, canSet_none, canSet_val, canSet_own, lstOf_list,
  List.getElem?_cons_zero, List.getElem?_cons_succ, List.set_cons_zero, List.set_cons_succ, List.length_cons, List.length_nil, wo_ite, wo_bind, ↓reduceIte, and_true, true_and, and_self, Bool.false_eq_true, Bool.not_true, Bool.not_false, decide_eq_true_eq, decide_true, decide_false, oneInt_int, twoInts_int,
  add_ii, add_ll, add_tt, add_ss, sub_ii, mul_ii, mulS_ii, mod_ii, fdiv_ii, neg_i, le_ii, gt_ii, ge_ii, eqT_ii, eqT_ss, eqT_bb, eqT_nn, ltT_ii, ltT_ss, wo_eqD, wo_neD, wo_ltD, wo_inD, wo_ninD, is_n, isnt_n, is_bb, isnt_bb, isN, bOf_b, iOf_i, tru_b, tru_n, tru_i, tru_l, tru_t, seq_l, seq_t, tup_l, tup_t, lst_l, lst_t, len_l, len_t, int_i, int_b, abs_i, max_ii, min_ii, ix_li, ix_ti, cut_l, cut_t, flat_i, flat_b, flat_s, ix0, ix1, ix2, mkTup, mkLst,
  ws_par3, three_c, ws_grp, empty_own, lOwnD_own, wm_lcW, wm_getD, wm_ind, ix3, ix4, ix_m2, ix_m1, ix_p2, ix_p1, wm_newD, ws_setK, wm_get, wm_ixK, wm_sortN, ws_ext, dOwn_own, lOwn_own, lsD_list, step_nx, step_cnt, step_brk, step_ret, step_rof, wm_reve, rev_l, rev_t, wm_opBL, repr_l, sort_l, sum_l, wm_enum, enum_l, enum_t, enumL_nil, wm_dic, wm_kvn, wm_kvc, seq_s, mulT_si, len_s, ord_c, str_i, ty_d, k_lb, k_li, k_ls, k_tb, k_ti, k_ts, k_db, k_di, k_ds, k_lt, k_tl,
  isi_1, tyOk_n, tyOk_b, tyOk_i, tyOk_s, tyOk_l, tyOk_t, ty_n, ty_b, ty_i, ty_s, ty_l, ty_t, k_nb, k_bb, k_ib, k_sb, k_ni, k_bi, k_ii, k_si, k_ns, k_bs, k_is, k_ss, k_ll, k_tt,
  Int.reduceNeg, Int.reducePow, Int.reduceLT, Int.reduceLE, Int.reduceAdd, Int.reduceSub, Int.reduceMul, Int.reduceToNat, Nat.reduceAdd, Nat.reduceLeDiff, Nat.reduceEqDiff, Int.reduceEq, reduceCtorEq, hz, kp, mvD, hno, hrl, List.length_map, List.length_replicate]
          simp only [List.map_nil, List.append_nil]
          exact ⟨by omega, some (.val (mvD m)), some (.val (.bool false)), o10, ⟨rfl, rfl, h10⟩, by simp [aloneM, mvD, hnn, hhigh]⟩
        | false =>
          have kp := kp_left false
          simp only [backE, wipeE, wo_some, wo_none, wm_c, wm_var, wm_frz, wm_bin, wm_un, wm_tst, wm_tru, wm_truB, wm_chain, wm_and, wm_or, wm_not, wm_andV, wm_orV, wm_notV, wm_ifE, wm_nil, wm_cons, wm_app, wm_noP, wm_part, wm_sl, wm_pk, wm_io, wm_ix, wm_inB, wm_true, wm_seq, wm_rng1, wm_rng2,
  then_nx, then_ret, then_rof, then_brk, then_cnt, ws_next, ws_brk, ws_cnt, ws_seq, ws_if, ws_ret, ws_rof, ws_drop, ws_set, ws_own, ws_asg, wo_TN, wo_TNil, wo_TCons, wo_TTup, ws_ap, ws_setIx, ws_for, for_nil, turn_nx, turn_cnt, turn_brk, turn_ret, turn_rof, wm_lc, end_ret, end_nx, end_rof, end_io, ownOf_own, valOf_val, frz_val, frz_own, cOwn_own, peek_val, peek_own, by_val, by_own, canSet_none, canSet_val, canSet_own, lstOf_list,
  List.getElem?_cons_zero, List.getElem?_cons_succ, List.set_cons_zero, List.set_cons_succ, List.length_cons, List.length_nil, wo_ite, wo_bind, ↓reduceIte, and_true, true_and, and_self, Bool.false_eq_true, Bool.not_true, Bool.not_false, decide_eq_true_eq, decide_true, decide_false, oneInt_int, twoInts_int,
  add_ii, add_ll, add_tt, add_ss, sub_ii, mul_ii, mulS_ii, mod_ii, fdiv_ii, neg_i, le_ii, gt_ii, ge_ii, eqT_ii, eqT_ss, eqT_bb, eqT_nn, ltT_ii, ltT_ss, wo_eqD, wo_neD, wo_ltD, wo_inD, wo_ninD, is_n, isnt_n, is_bb, isnt_bb, isN, bOf_b, iOf_i, tru_b, tru_n, tru_i, tru_l, tru_t, seq_l, seq_t, tup_l, tup_t, lst_l, lst_t, len_l, len_t, int_i, int_b, abs_i, max_ii, min_ii, ix_li, ix_ti, cut_l, cut_t, flat_i, flat_b, flat_s, ix0, ix1, ix2, mkTup, mkLst,
  ws_par3, three_c, ws_grp, empty_own, lOwnD_own, wm_lcW, wm_getD, wm_ind, ix3, ix4, ix_m2, ix_m1, ix_p2, ix_p1, wm_newD, ws_setK, wm_get, wm_ixK, wm_sortN, ws_ext, dOwn_own, lOwn_own, lsD_list, step_nx, step_cnt, step_brk, step_ret, step_rof, wm_reve, rev_l, rev_t, wm_opBL, repr_l, sort_l, sum_l, wm_enum, enum_l, enum_t, enumL_nil, wm_dic, wm_kvn, wm_kvc, seq_s, mulT_si, len_s, ord_c, str_i, ty_d, k_lb, k_li, k_ls, k_tb, k_ti, k_ts, k_db, k_di, k_ds, k_lt, k_tl,
  isi_1, tyOk_n, tyOk_b, tyOk_i, tyOk_s, tyOk_l, tyOk_t, ty_n, ty_b, ty_i, ty_s, ty_l, ty_t, k_nb, k_bb, k_ib, k_sb, k_ni, k_bi, k_ii, k_si, k_ns, k_bs, k_is, k_ss, k_ll, k_tt,
  Int.reduceNeg, Int.reducePow, Int.reduceLT, Int.reduceLE, Int.reduceAdd, Int.reduceSub, Int.reduceMul, Int.reduceToNat, Nat.reduceAdd, Nat.reduceLeDiff, Nat.reduceEqDiff, Int.reduceEq, reduceCtorEq, hz, kp, mvD]
          exact ⟨some (.val (mvD m)), some (.val (.bool false)), o10, ⟨rfl, rfl, h10⟩, by simp [mvD]⟩
      · have hz : decide (0 < (G.filter (closeB N m)).length) = true := decide_eq_true (by omega)
        simp only [backE, wipeE, wo_some, wo_none, wm_c, wm_var, wm_frz, wm_bin, wm_un, wm_tst, wm_tru, wm_truB, wm_chain, wm_and, wm_or, wm_not, wm_andV, wm_orV, wm_notV, wm_ifE, wm_nil, wm_cons, wm_app, wm_noP, wm_part, wm_sl, wm_pk, wm_io, wm_ix, wm_inB, wm_true, wm_seq, wm_rng1, wm_rng2,
  then_nx, then_ret, then_rof, then_brk, then_cnt, ws_next, ws_brk, ws_cnt, ws_seq, ws_if, ws_ret, ws_rof, ws_drop, ws_set, ws_own, ws_asg, wo_TN, wo_TNil, wo_TCons, wo_TTup, ws_ap, ws_setIx, ws_for, for_nil, turn_nx, turn_cnt, turn_brk, turn_ret, turn_rof, wm_lc, end_ret, end_nx, end_rof, end_io, ownOf_own, valOf_val, frz_val, frz_own, cOwn_own, peek_val, peek_own, by_val, by_own, canSet_none, canSet_val, canSet_own, lstOf_list,
  List.getElem?_cons_zero, List.getElem?_cons_succ, List.set_cons_zero, List.set_cons_succ, List.length_cons, List.length_nil, wo_ite, wo_bind, ↓reduceIte, and_true, true_and, and_self, Bool.false_eq_true, Bool.not_true, Bool.not_false, decide_eq_true_eq, decide_true, decide_false, oneInt_int, twoInts_int,
  add_ii, add_ll, add_tt, add_ss, sub_ii, mul_ii, mulS_ii, mod_ii, fdiv_ii, neg_i, le_ii, gt_ii, ge_ii, eqT_ii, eqT_ss, eqT_bb, eqT_nn, ltT_ii, ltT_ss, wo_eqD, wo_neD, wo_ltD, wo_inD, wo_ninD, is_n, isnt_n, is_bb, isnt_bb, isN, bOf_b, iOf_i, tru_b, tru_n, tru_i, tru_l, tru_t, seq_l, seq_t, tup_l, tup_t, lst_l, lst_t, len_l, len_t, int_i, int_b, abs_i, max_ii, min_ii, ix_li, ix_ti, cut_l, cut_t, flat_i, flat_b, flat_s, ix0, ix1, ix2, mkTup, mkLst,
  ws_par3, three_c, ws_grp, empty_own, lOwnD_own, wm_lcW, wm_getD, wm_ind, ix3, ix4, ix_m2, ix_m1, ix_p2, ix_p1, wm_newD, ws_setK, wm_get, wm_ixK, wm_sortN, ws_ext, dOwn_own, lOwn_own, lsD_list, step_nx, step_cnt, step_brk, step_ret, step_rof, wm_reve, rev_l, rev_t, wm_opBL, repr_l, sort_l, sum_l, wm_enum, enum_l, enum_t, enumL_nil, wm_dic, wm_kvn, wm_kvc, seq_s, mulT_si, len_s, ord_c, str_i, ty_d, k_lb, k_li, k_ls, k_tb, k_ti, k_ts, k_db, k_di, k_ds, k_lt, k_tl,
  isi_1, tyOk_n, tyOk_b, tyOk_i, tyOk_s, tyOk_l, tyOk_t, ty_n, ty_b, ty_i, ty_s, ty_l, ty_t, k_nb, k_bb, k_ib, k_sb, k_ni, k_bi, k_ii, k_si, k_ns, k_bs, k_is, k_ss, k_ll, k_tt,
  Int.reduceNeg, Int.reducePow, Int.reduceLT, Int.reduceLE, Int.reduceAdd, Int.reduceSub, Int.reduceMul, Int.reduceToNat, Nat.reduceAdd, Nat.reduceLeDiff, Nat.reduceEqDiff, Int.reduceEq, reduceCtorEq, hz]
        exact ⟨some (.val (mvD m)), some (.val (.bool true)), o10, ⟨rfl, rfl, h10⟩, by simp [z, mvD]⟩
  · rintro ρ' ⟨o8, o9, o10, ⟨h8, h9, h10⟩, rfl⟩
    simp only [backE, wipeE, wo_some, wo_none, wm_c, wm_var, wm_frz, wm_bin, wm_un, wm_tst, wm_tru, wm_truB, wm_chain, wm_and, wm_or, wm_not, wm_andV, wm_orV, wm_notV, wm_ifE, wm_nil, wm_cons, wm_app, wm_noP, wm_part, wm_sl, wm_pk, wm_io, wm_ix, wm_inB, wm_true, wm_seq, wm_rng1, wm_rng2,
  then_nx, then_ret, then_rof, then_brk, then_cnt, ws_next, ws_brk, ws_cnt, ws_seq, ws_if, ws_ret, ws_rof, ws_drop, ws_set, ws_own, ws_asg, wo_TN, wo_TNil, wo_TCons, wo_TTup, ws_ap, ws_setIx, ws_for, for_nil, turn_nx, turn_cnt, turn_brk, turn_ret, turn_rof, wm_lc, end_ret, end_nx, end_rof, end_io, ownOf_own, valOf_val, frz_val, frz_own, cOwn_own, peek_val, peek_own, by_val, by_own, canSet_none, canSet_val, canSet_own, lstOf_list,
  List.getElem?_cons_zero, List.getElem?_cons_succ, List.set_cons_zero, List.set_cons_succ, List.length_cons, List.length_nil, wo_ite, wo_bind, ↓reduceIte, and_true, true_and, and_self, Bool.false_eq_true, Bool.not_true, Bool.not_false, decide_eq_true_eq, decide_true, decide_false, oneInt_int, twoInts_int,
  add_ii, add_ll, add_tt, add_ss, sub_ii, mul_ii, mulS_ii, mod_ii, fdiv_ii, neg_i, le_ii, gt_ii, ge_ii, eqT_ii, eqT_ss, eqT_bb, eqT_nn, ltT_ii, ltT_ss, wo_eqD, wo_neD, wo_ltD, wo_inD, wo_ninD, is_n, isnt_n, is_bb, isnt_bb, isN, bOf_b, iOf_i, tru_b, tru_n, tru_i, tru_l, tru_t, seq_l, seq_t, tup_l, tup_t, lst_l, lst_t, len_l, len_t, int_i, int_b, abs_i, max_ii, min_ii, ix_li, ix_ti, cut_l, cut_t, flat_i, flat_b, flat_s, ix0, ix1, ix2, mkTup, mkLst,
  ws_par3, three_c, ws_grp, empty_own, lOwnD_own, wm_lcW, wm_getD, wm_ind, ix3, ix4, ix_m2, ix_m1, ix_p2, ix_p1, wm_newD, ws_setK, wm_get, wm_ixK, wm_sortN, ws_ext, dOwn_own, lOwn_own, lsD_list, step_nx, step_cnt, step_brk, step_ret, step_rof, wm_reve, rev_l, rev_t, wm_opBL, repr_l, sort_l, sum_l, wm_enum, enum_l, enum_t, enumL_nil, wm_dic, wm_kvn, wm_kvc, seq_s, mulT_si, len_s, ord_c, str_i, ty_d, k_lb, k_li, k_ls, k_tb, k_ti, k_ts, k_db, k_di, k_ds, k_lt, k_tl,
  isi_1, tyOk_n, tyOk_b, tyOk_i, tyOk_s, tyOk_l, tyOk_t, ty_n, ty_b, ty_i, ty_s, ty_l, ty_t, k_nb, k_bb, k_ib, k_sb, k_ni, k_bi, k_ii, k_si, k_ns, k_bs, k_is, k_ss, k_ll, k_tt,
  Int.reduceNeg, Int.reducePow, Int.reduceLT, Int.reduceLE, Int.reduceAdd, Int.reduceSub, Int.reduceMul, Int.reduceToNat, Nat.reduceAdd, Nat.reduceLeDiff, Nat.reduceEqDiff, Int.reduceEq, reduceCtorEq]
    rfl

theorem sp_law_meet {ps qs : List (Str × Str)} {pr : List (Nat × Nat)} {r1 r2 : List D} (hgp : ∀ p ∈ ps, gv (.str p.1)) (hgq : ∀ p ∈ qs, gv (.str p.1)) (hnp : (ps.map (·.1)).Nodup) (hnq : (qs.map (·.1)).Nodup) (hp : ps.length ≤ 100) (hq : qs.length ≤ 100) (hpr : ∀ x ∈ pr, x.1 < ps.length ∧ x.2 < qs.length) (hprl : pr.length ≤ 100) (h1 : okR r1) (h2 : okR r2) (l1 : r1.length = ps.length) (l2 : r2.length = qs.length) :
    f__law_meet [.tuple r1, .tuple r2, .tuple (ps.map fdD), .tuple (qs.map fdD), .tuple (pr.map (prD2 ps qs))] = some (.bool (eqR (kfo (pr.map (·.1)) r1) (kfo (pr.map (·.2)) r2))) := by
  have hos1 : ∀ o ∈ pr.map (·.1), o < ps.length := fun o ho => by
    obtain ⟨x, hx, rfl⟩ := List.mem_map.mp ho
    exact (hpr x hx).1
  have hos2 : ∀ o ∈ pr.map (·.2), o < qs.length := fun o ho => by
    obtain ⟨x, hx, rfl⟩ := List.mem_map.mp ho
    exact (hpr x hx).2
  have hl1 : (pr.map (·.1)).length ≤ 1000 := by rw [List.length_map]; omega
  have hl2 : (pr.map (·.2)).length ≤ 1000 := by rw [List.length_map]; omega
  have k1 := sp_law_key (ps := ps) (os := pr.map (·.1)) (r := r1) (cd := .list ((pr.map (·.1)).map fun o => .str (nmAt ps o))) rfl hgp hnp l1 hos1 hl1 (by omega)
  have k2 := sp_law_key (ps := qs) (os := pr.map (·.2)) (r := r2) (cd := .list ((pr.map (·.2)).map fun o => .str (nmAt qs o))) rfl hgq hnq l2 hos2 hl2 (by omega)
  have o1 := kfo_ok (os := pr.map (·.1)) h1 hl1
  have o2 := kfo_ok (os := pr.map (·.2)) h2 hl2
  rw [← wo_eq]
  unfold f__law_meet
  rw [wo_runV]
  show Ws g__law_meet [some (.val (.tuple r1)), some (.val (.tuple r2)), some (.val (.tuple (ps.map fdD))), some (.val (.tuple (qs.map fdD))), some (.val (.tuple (pr.map (prD2 ps qs)))), none, none] _
  unfold g__law_meet
  simp only [backE, wipeE, wo_some, wo_none, wm_c, wm_var, wm_frz, wm_bin, wm_un, wm_tst, wm_tru, wm_truB, wm_chain, wm_and, wm_or, wm_not, wm_andV, wm_orV, wm_notV, wm_ifE, wm_nil, wm_cons, wm_app, wm_noP, wm_part, wm_sl, wm_pk, wm_io, wm_ix, wm_inB, wm_true, wm_seq, wm_rng1, wm_rng2,
  then_nx, then_ret, then_rof, then_brk, then_cnt, ws_next, ws_brk, ws_cnt, ws_seq, ws_if, ws_ret, ws_rof, ws_drop, ws_set, ws_own, ws_asg, wo_TN, wo_TNil, wo_TCons, wo_TTup, ws_ap, ws_setIx, ws_for, for_nil, turn_nx, turn_cnt, turn_brk, turn_ret, turn_rof, wm_lc, end_ret, end_nx, end_rof, end_io, ownOf_own, valOf_val, frz_val, frz_own, cOwn_own, peek_val, peek_own, by_val, by_own, canSet_none, canSet_val, canSet_own, lstOf_list,
  List.getElem?_cons_zero, List.getElem?_cons_succ, List.set_cons_zero, List.set_cons_succ, List.length_cons, List.length_nil, wo_ite, wo_bind, ↓reduceIte, and_true, true_and, and_self, Bool.false_eq_true, Bool.not_true, Bool.not_false, decide_eq_true_eq, decide_true, decide_false, oneInt_int, twoInts_int,
  add_ii, add_ll, add_tt, add_ss, sub_ii, mul_ii, mulS_ii, mod_ii, fdiv_ii, neg_i, le_ii, gt_ii, ge_ii, eqT_ii, eqT_ss, eqT_bb, eqT_nn, ltT_ii, ltT_ss, wo_eqD, wo_neD, wo_ltD, wo_inD, wo_ninD, is_n, isnt_n, is_bb, isnt_bb, isN, bOf_b, iOf_i, tru_b, tru_n, tru_i, tru_l, tru_t, seq_l, seq_t, tup_l, tup_t, lst_l, lst_t, len_l, len_t, int_i, int_b, abs_i, max_ii, min_ii, ix_li, ix_ti, cut_l, cut_t, flat_i, flat_b, flat_s, ix0, ix1, ix2, mkTup, mkLst,
  ws_par3, three_c, ws_grp, empty_own, lOwnD_own, wm_lcW, wm_getD, wm_ind, ix3, ix4, ix_m2, ix_m1, ix_p2, ix_p1, wm_newD, ws_setK, wm_get, wm_ixK, wm_sortN, ws_ext, dOwn_own, lOwn_own, lsD_list, step_nx, step_cnt, step_brk, step_ret, step_rof, wm_reve, rev_l, rev_t, wm_opBL, repr_l, sort_l, sum_l, wm_enum, enum_l, enum_t, enumL_nil, wm_dic, wm_kvn, wm_kvc, seq_s, mulT_si, len_s, ord_c, str_i, ty_d, k_lb, k_li, k_ls, k_tb, k_ti, k_ts, k_db, k_di, k_ds, k_lt, k_tl,
  isi_1, tyOk_n, tyOk_b, tyOk_i, tyOk_s, tyOk_l, tyOk_t, ty_n, ty_b, ty_i, ty_s, ty_l, ty_t, k_nb, k_bb, k_ib, k_sb, k_ni, k_bi, k_ii, k_si, k_ns, k_bs, k_is, k_ss, k_ll, k_tt,
  Int.reduceNeg, Int.reducePow, Int.reduceLT, Int.reduceLE, Int.reduceAdd, Int.reduceSub, Int.reduceMul, Int.reduceToNat, Nat.reduceAdd, Nat.reduceLeDiff, Nat.reduceEqDiff, Int.reduceEq, reduceCtorEq, List.length_map]
  refine ⟨⟨by omega, rfl⟩, ?_⟩
  refine lc_mapA (prD2 ps qs) (fun x => .str (nmAt ps x.1)) _ (fun x _ => ?_) ?_
  · show Wo (gTN 6 _ [_, _, _, _, _, none, none]) _
    simp only [backE, wipeE, wo_some, wo_none, wm_c, wm_var, wm_frz, wm_bin, wm_un, wm_tst, wm_tru, wm_truB, wm_chain, wm_and, wm_or, wm_not, wm_andV, wm_orV, wm_notV, wm_ifE, wm_nil, wm_cons, wm_app, wm_noP, wm_part, wm_sl, wm_pk, wm_io, wm_ix, wm_inB, wm_true, wm_seq, wm_rng1, wm_rng2,
  then_nx, then_ret, then_rof, then_brk, then_cnt, ws_next, ws_brk, ws_cnt, ws_seq, ws_if, ws_ret, ws_rof, ws_drop, ws_set, ws_own, ws_asg, wo_TN, wo_TNil, wo_TCons, wo_TTup, ws_ap, ws_setIx, ws_for, for_nil, turn_nx, turn_cnt, turn_brk, turn_ret, turn_rof, wm_lc, end_ret, end_nx, end_rof, end_io, ownOf_own, valOf_val, frz_val, frz_own, cOwn_own, peek_val, peek_own, by_val, by_own, canSet_none, canSet_val, canSet_own, lstOf_list,
  List.getElem?_cons_zero, List.getElem?_cons_succ, List.set_cons_zero, List.set_cons_succ, List.length_cons, List.length_nil, wo_ite, wo_bind, ↓reduceIte, and_true, true_and, and_self, Bool.false_eq_true, Bool.not_true, Bool.not_false, decide_eq_true_eq, decide_true, decide_false, oneInt_int, twoInts_int,
  add_ii, add_ll, add_tt, add_ss, sub_ii, mul_ii, mulS_ii, mod_ii, fdiv_ii, neg_i, le_ii, gt_ii, ge_ii, eqT_ii, eqT_ss, eqT_bb, eqT_nn, ltT_ii, ltT_ss, wo_eqD, wo_neD, wo_ltD, wo_inD, wo_ninD, is_n, isnt_n, is_bb, isnt_bb, isN, bOf_b, iOf_i, tru_b, tru_n, tru_i, tru_l, tru_t, seq_l, seq_t, tup_l, tup_t, lst_l, lst_t, len_l, len_t, int_i, int_b, abs_i, max_ii, min_ii, ix_li, ix_ti, cut_l, cut_t, flat_i, flat_b, flat_s, ix0, ix1, ix2, mkTup, mkLst,
  ws_par3, three_c, ws_grp, empty_own, lOwnD_own, wm_lcW, wm_getD, wm_ind, ix3, ix4, ix_m2, ix_m1, ix_p2, ix_p1, wm_newD, ws_setK, wm_get, wm_ixK, wm_sortN, ws_ext, dOwn_own, lOwn_own, lsD_list, step_nx, step_cnt, step_brk, step_ret, step_rof, wm_reve, rev_l, rev_t, wm_opBL, repr_l, sort_l, sum_l, wm_enum, enum_l, enum_t, enumL_nil, wm_dic, wm_kvn, wm_kvc, seq_s, mulT_si, len_s, ord_c, str_i, ty_d, k_lb, k_li, k_ls, k_tb, k_ti, k_ts, k_db, k_di, k_ds, k_lt, k_tl,
  isi_1, tyOk_n, tyOk_b, tyOk_i, tyOk_s, tyOk_l, tyOk_t, ty_n, ty_b, ty_i, ty_s, ty_l, ty_t, k_nb, k_bb, k_ib, k_sb, k_ni, k_bi, k_ii, k_si, k_ns, k_bs, k_is, k_ss, k_ll, k_tt,
  Int.reduceNeg, Int.reducePow, Int.reduceLT, Int.reduceLE, Int.reduceAdd, Int.reduceSub, Int.reduceMul, Int.reduceToNat, Nat.reduceAdd, Nat.reduceLeDiff, Nat.reduceEqDiff, Int.reduceEq, reduceCtorEq, prD2]
    all_goals rfl
  · have e1 : (pr.map fun x => PyData.str (nmAt ps x.1)) = (pr.map (·.1)).map fun o => .str (nmAt ps o) := by rw [List.map_map]; rfl
    rw [e1]
    simp only [backE, wipeE, wo_some, wo_none, wm_c, wm_var, wm_frz, wm_bin, wm_un, wm_tst, wm_tru, wm_truB, wm_chain, wm_and, wm_or, wm_not, wm_andV, wm_orV, wm_notV, wm_ifE, wm_nil, wm_cons, wm_app, wm_noP, wm_part, wm_sl, wm_pk, wm_io, wm_ix, wm_inB, wm_true, wm_seq, wm_rng1, wm_rng2,
  then_nx, then_ret, then_rof, then_brk, then_cnt, ws_next, ws_brk, ws_cnt, ws_seq, ws_if, ws_ret, ws_rof, ws_drop, ws_set, ws_own, ws_asg, wo_TN, wo_TNil, wo_TCons, wo_TTup, ws_ap, ws_setIx, ws_for, for_nil, turn_nx, turn_cnt, turn_brk, turn_ret, turn_rof, wm_lc, end_ret, end_nx, end_rof, end_io, ownOf_own, valOf_val, frz_val, frz_own, cOwn_own, peek_val, peek_own, by_val, by_own, canSet_none, canSet_val, canSet_own, lstOf_list,
  List.getElem?_cons_zero, List.getElem?_cons_succ, List.set_cons_zero, List.set_cons_succ, List.length_cons, List.length_nil, wo_ite, wo_bind, ↓reduceIte, and_true, true_and, and_self, Bool.false_eq_true, Bool.not_true, Bool.not_false, decide_eq_true_eq, decide_true, decide_false, oneInt_int, twoInts_int,
  add_ii, add_ll, add_tt, add_ss, sub_ii, mul_ii, mulS_ii, mod_ii, fdiv_ii, neg_i, le_ii, gt_ii, ge_ii, eqT_ii, eqT_ss, eqT_bb, eqT_nn, ltT_ii, ltT_ss, wo_eqD, wo_neD, wo_ltD, wo_inD, wo_ninD, is_n, isnt_n, is_bb, isnt_bb, isN, bOf_b, iOf_i, tru_b, tru_n, tru_i, tru_l, tru_t, seq_l, seq_t, tup_l, tup_t, lst_l, lst_t, len_l, len_t, int_i, int_b, abs_i, max_ii, min_ii, ix_li, ix_ti, cut_l, cut_t, flat_i, flat_b, flat_s, ix0, ix1, ix2, mkTup, mkLst,
  ws_par3, three_c, ws_grp, empty_own, lOwnD_own, wm_lcW, wm_getD, wm_ind, ix3, ix4, ix_m2, ix_m1, ix_p2, ix_p1, wm_newD, ws_setK, wm_get, wm_ixK, wm_sortN, ws_ext, dOwn_own, lOwn_own, lsD_list, step_nx, step_cnt, step_brk, step_ret, step_rof, wm_reve, rev_l, rev_t, wm_opBL, repr_l, sort_l, sum_l, wm_enum, enum_l, enum_t, enumL_nil, wm_dic, wm_kvn, wm_kvc, seq_s, mulT_si, len_s, ord_c, str_i, ty_d, k_lb, k_li, k_ls, k_tb, k_ti, k_ts, k_db, k_di, k_ds, k_lt, k_tl,
  isi_1, tyOk_n, tyOk_b, tyOk_i, tyOk_s, tyOk_l, tyOk_t, ty_n, ty_b, ty_i, ty_s, ty_l, ty_t, k_nb, k_bb, k_ib, k_sb, k_ni, k_bi, k_ii, k_si, k_ns, k_bs, k_is, k_ss, k_ll, k_tt,
  Int.reduceNeg, Int.reducePow, Int.reduceLT, Int.reduceLE, Int.reduceAdd, Int.reduceSub, Int.reduceMul, Int.reduceToNat, Nat.reduceAdd, Nat.reduceLeDiff, Nat.reduceEqDiff, Int.reduceEq, reduceCtorEq, backE, k1, List.length_map]
    refine ⟨⟨by omega, rfl⟩, ?_⟩
    refine lc_mapA (prD2 ps qs) (fun x => .str (nmAt qs x.2)) _ (fun x _ => ?_) ?_
    · show Wo (gTN 6 _ [_, _, _, _, _, _, none]) _
      simp only [backE, wipeE, wo_some, wo_none, wm_c, wm_var, wm_frz, wm_bin, wm_un, wm_tst, wm_tru, wm_truB, wm_chain, wm_and, wm_or, wm_not, wm_andV, wm_orV, wm_notV, wm_ifE, wm_nil, wm_cons, wm_app, wm_noP, wm_part, wm_sl, wm_pk, wm_io, wm_ix, wm_inB, wm_true, wm_seq, wm_rng1, wm_rng2,
  then_nx, then_ret, then_rof, then_brk, then_cnt, ws_next, ws_brk, ws_cnt, ws_seq, ws_if, ws_ret, ws_rof, ws_drop, ws_set, ws_own, ws_asg, wo_TN, wo_TNil, wo_TCons, wo_TTup, ws_ap, ws_setIx, ws_for, for_nil, turn_nx, turn_cnt, turn_brk, turn_ret, turn_rof, wm_lc, end_ret, end_nx, end_rof, end_io, ownOf_own, valOf_val, frz_val, frz_own, cOwn_own, peek_val, peek_own, by_val, by_own, canSet_none, canSet_val, canSet_own, lstOf_list,
  List.getElem?_cons_zero, List.getElem?_cons_succ, List.set_cons_zero, List.set_cons_succ, List.length_cons, List.length_nil, wo_ite, wo_bind, ↓reduceIte, and_true, true_and, and_self, Bool.false_eq_true, Bool.not_true, Bool.not_false, decide_eq_true_eq, decide_true, decide_false, oneInt_int, twoInts_int,
  add_ii, add_ll, add_tt, add_ss, sub_ii, mul_ii, mulS_ii, mod_ii, fdiv_ii, neg_i, le_ii, gt_ii, ge_ii, eqT_ii, eqT_ss, eqT_bb, eqT_nn, ltT_ii, ltT_ss, wo_eqD, wo_neD, wo_ltD, wo_inD, wo_ninD, is_n, isnt_n, is_bb, isnt_bb, isN, bOf_b, iOf_i, tru_b, tru_n, tru_i, tru_l, tru_t, seq_l, seq_t, tup_l, tup_t, lst_l, lst_t, len_l, len_t, int_i, int_b, abs_i, max_ii, min_ii, ix_li, ix_ti, cut_l, cut_t, flat_i, flat_b, flat_s, ix0, ix1, ix2, mkTup, mkLst,
  ws_par3, three_c, ws_grp, empty_own, lOwnD_own, wm_lcW, wm_getD, wm_ind, ix3, ix4, ix_m2, ix_m1, ix_p2, ix_p1, wm_newD, ws_setK, wm_get, wm_ixK, wm_sortN, ws_ext, dOwn_own, lOwn_own, lsD_list, step_nx, step_cnt, step_brk, step_ret, step_rof, wm_reve, rev_l, rev_t, wm_opBL, repr_l, sort_l, sum_l, wm_enum, enum_l, enum_t, enumL_nil, wm_dic, wm_kvn, wm_kvc, seq_s, mulT_si, len_s, ord_c, str_i, ty_d, k_lb, k_li, k_ls, k_tb, k_ti, k_ts, k_db, k_di, k_ds, k_lt, k_tl,
  isi_1, tyOk_n, tyOk_b, tyOk_i, tyOk_s, tyOk_l, tyOk_t, ty_n, ty_b, ty_i, ty_s, ty_l, ty_t, k_nb, k_bb, k_ib, k_sb, k_ni, k_bi, k_ii, k_si, k_ns, k_bs, k_is, k_ss, k_ll, k_tt,
  Int.reduceNeg, Int.reducePow, Int.reduceLT, Int.reduceLE, Int.reduceAdd, Int.reduceSub, Int.reduceMul, Int.reduceToNat, Nat.reduceAdd, Nat.reduceLeDiff, Nat.reduceEqDiff, Int.reduceEq, reduceCtorEq, prD2]
      all_goals rfl
    · have e2 : (pr.map fun x => PyData.str (nmAt qs x.2)) = (pr.map (·.2)).map fun o => .str (nmAt qs o) := by rw [List.map_map]; rfl
      rw [e2]
      simp only [backE, wipeE, wo_some, wo_none, wm_c, wm_var, wm_frz, wm_bin, wm_un, wm_tst, wm_tru, wm_truB, wm_chain, wm_and, wm_or, wm_not, wm_andV, wm_orV, wm_notV, wm_ifE, wm_nil, wm_cons, wm_app, wm_noP, wm_part, wm_sl, wm_pk, wm_io, wm_ix, wm_inB, wm_true, wm_seq, wm_rng1, wm_rng2,
  then_nx, then_ret, then_rof, then_brk, then_cnt, ws_next, ws_brk, ws_cnt, ws_seq, ws_if, ws_ret, ws_rof, ws_drop, ws_set, ws_own, ws_asg, wo_TN, wo_TNil, wo_TCons, wo_TTup, ws_ap, ws_setIx, ws_for, for_nil, turn_nx, turn_cnt, turn_brk, turn_ret, turn_rof, wm_lc, end_ret, end_nx, end_rof, end_io, ownOf_own, valOf_val, frz_val, frz_own, cOwn_own, peek_val, peek_own, by_val, by_own, canSet_none, canSet_val, canSet_own, lstOf_list,
  List.getElem?_cons_zero, List.getElem?_cons_succ, List.set_cons_zero, List.set_cons_succ, List.length_cons, List.length_nil, wo_ite, wo_bind, ↓reduceIte, and_true, true_and, and_self, Bool.false_eq_true, Bool.not_true, Bool.not_false, decide_eq_true_eq, decide_true, decide_false, oneInt_int, twoInts_int,
  add_ii, add_ll, add_tt, add_ss, sub_ii, mul_ii, mulS_ii, mod_ii, fdiv_ii, neg_i, le_ii, gt_ii, ge_ii, eqT_ii, eqT_ss, eqT_bb, eqT_nn, ltT_ii, ltT_ss, wo_eqD, wo_neD, wo_ltD, wo_inD, wo_ninD, is_n, isnt_n, is_bb, isnt_bb, isN, bOf_b, iOf_i, tru_b, tru_n, tru_i, tru_l, tru_t, seq_l, seq_t, tup_l, tup_t, lst_l, lst_t, len_l, len_t, int_i, int_b, abs_i, max_ii, min_ii, ix_li, ix_ti, cut_l, cut_t, flat_i, flat_b, flat_s, ix0, ix1, ix2, mkTup, mkLst,
  ws_par3, three_c, ws_grp, empty_own, lOwnD_own, wm_lcW, wm_getD, wm_ind, ix3, ix4, ix_m2, ix_m1, ix_p2, ix_p1, wm_newD, ws_setK, wm_get, wm_ixK, wm_sortN, ws_ext, dOwn_own, lOwn_own, lsD_list, step_nx, step_cnt, step_brk, step_ret, step_rof, wm_reve, rev_l, rev_t, wm_opBL, repr_l, sort_l, sum_l, wm_enum, enum_l, enum_t, enumL_nil, wm_dic, wm_kvn, wm_kvc, seq_s, mulT_si, len_s, ord_c, str_i, ty_d, k_lb, k_li, k_ls, k_tb, k_ti, k_ts, k_db, k_di, k_ds, k_lt, k_tl,
  isi_1, tyOk_n, tyOk_b, tyOk_i, tyOk_s, tyOk_l, tyOk_t, ty_n, ty_b, ty_i, ty_s, ty_l, ty_t, k_nb, k_bb, k_ib, k_sb, k_ni, k_bi, k_ii, k_si, k_ns, k_bs, k_is, k_ss, k_ll, k_tt,
  Int.reduceNeg, Int.reducePow, Int.reduceLT, Int.reduceLE, Int.reduceAdd, Int.reduceSub, Int.reduceMul, Int.reduceToNat, Nat.reduceAdd, Nat.reduceLeDiff, Nat.reduceEqDiff, Int.reduceEq, reduceCtorEq, backE, k2, sp_alike o1.1 o2.1 o1.2 o2.2]
      rfl

theorem nears_len {N : Nr} {A B : List Mv} (hA : A.length ≤ 100) (hB : B.length ≤ 100) : (nears N A B).length ≤ 20000 := by
  have := len_flat (n := 101) (p := A.map (nearM N B)) fun y hy => by
    obtain ⟨z, _, rfl⟩ := List.mem_map.mp hy
    have := nearM_len N B z
    omega
  rw [List.length_map] at this
  unfold nears
  omega
theorem sp_define_near {ps qs : List (Str × Str)} {pr : List (Nat × Nat)} {low high : Int} {left : Bool} {A B : List Mv} {b : Int} (hb : 0 ≤ b ∧ b ≤ 1000) (hA : okB b ps.length A) (hB : okB b qs.length B) (hAl : A.length ≤ 100) (hBl : B.length ≤ 100) (hp : ps.length ≤ 100) (hq : qs.length ≤ 100)
    (hnp : (ps.map (·.1)).Nodup) (hnq : (qs.map (·.1)).Nodup) (hpr : ∀ x ∈ pr, x.1 < ps.length ∧ x.2 < qs.length) (hprl : pr.length ≤ 100) :
    f_define [.tuple [.str "near", .tuple (pr.map (prD2 ps qs)), .int low, .int high, .str (kpS left)], .list [.tuple (ps.map fdD), .tuple (qs.map fdD)], .list [.list (A.map mvD), .list (B.map mvD)]] = some (.list ((flw (nears ⟨pr.map (·.1), pr.map (·.2), low, high, left, qs.length⟩ A B)).map mvD)) := by
  have hn := sp_near_moves (low := low) (high := high) (left := left) hb hA hB (by omega) (by omega) hp hq hnp hnq hpr hprl
  have ok := nears_ok (N := ⟨pr.map (·.1), pr.map (·.2), low, high, left, qs.length⟩) hA hB hp hq hq
  have len := nears_len (N := ⟨pr.map (·.1), pr.map (·.2), low, high, left, qs.length⟩) hAl hBl
  have hf := sp_flow_of ok (by omega)
  rw [← wo_eq]
  unfold f_define
  rw [wo_runV]
  show Ws g_define [some (.val (.tuple [.str "near", .tuple (pr.map (prD2 ps qs)), .int low, .int high, .str (kpS left)])), some (.val (.list [.tuple (ps.map fdD), .tuple (qs.map fdD)])), some (.val (.list [.list (A.map mvD), .list (B.map mvD)])), none, none, none] _
  unfold g_define
  have n1 := sne "near" "filter" (by decide)
  have n2 := sne "near" "map" (by decide)
  have n3 := sne "near" "union" (by decide)
  have n4 := sne "near" "window" (by decide)
  simp only [backE, wipeE, wo_some, wo_none, wm_c, wm_var, wm_frz, wm_bin, wm_un, wm_tst, wm_tru, wm_truB, wm_chain, wm_and, wm_or, wm_not, wm_andV, wm_orV, wm_notV, wm_ifE, wm_nil, wm_cons, wm_app, wm_noP, wm_part, wm_sl, wm_pk, wm_io, wm_ix, wm_inB, wm_true, wm_seq, wm_rng1, wm_rng2,
  then_nx, then_ret, then_rof, then_brk, then_cnt, ws_next, ws_brk, ws_cnt, ws_seq, ws_if, ws_ret, ws_rof, ws_drop, ws_set, ws_own, ws_asg, wo_TN, wo_TNil, wo_TCons, wo_TTup, ws_ap, ws_setIx, ws_for, for_nil, turn_nx, turn_cnt, turn_brk, turn_ret, turn_rof, wm_lc, end_ret, end_nx, end_rof, end_io, ownOf_own, valOf_val, frz_val, frz_own, cOwn_own, peek_val, peek_own, by_val, by_own, canSet_none, canSet_val, canSet_own, lstOf_list,
  List.getElem?_cons_zero, List.getElem?_cons_succ, List.set_cons_zero, List.set_cons_succ, List.length_cons, List.length_nil, wo_ite, wo_bind, ↓reduceIte, and_true, true_and, and_self, Bool.false_eq_true, Bool.not_true, Bool.not_false, decide_eq_true_eq, decide_true, decide_false, oneInt_int, twoInts_int,
  add_ii, add_ll, add_tt, add_ss, sub_ii, mul_ii, mulS_ii, mod_ii, fdiv_ii, neg_i, le_ii, gt_ii, ge_ii, eqT_ii, eqT_ss, eqT_bb, eqT_nn, ltT_ii, ltT_ss, wo_eqD, wo_neD, wo_ltD, wo_inD, wo_ninD, is_n, isnt_n, is_bb, isnt_bb, isN, bOf_b, iOf_i, tru_b, tru_n, tru_i, tru_l, tru_t, seq_l, seq_t, tup_l, tup_t, lst_l, lst_t, len_l, len_t, int_i, int_b, abs_i, max_ii, min_ii, ix_li, ix_ti, cut_l, cut_t, flat_i, flat_b, flat_s, ix0, ix1, ix2, mkTup, mkLst,
  ws_par3, three_c, ws_grp, empty_own, lOwnD_own, wm_lcW, wm_getD, wm_ind, ix3, ix4, ix_m2, ix_m1, ix_p2, ix_p1, wm_newD, ws_setK, wm_get, wm_ixK, wm_sortN, ws_ext, dOwn_own, lOwn_own, lsD_list, step_nx, step_cnt, step_brk, step_ret, step_rof, wm_reve, rev_l, rev_t, wm_opBL, repr_l, sort_l, sum_l, wm_enum, enum_l, enum_t, enumL_nil, wm_dic, wm_kvn, wm_kvc, seq_s, mulT_si, len_s, ord_c, str_i, ty_d, k_lb, k_li, k_ls, k_tb, k_ti, k_ts, k_db, k_di, k_ds, k_lt, k_tl,
  isi_1, tyOk_n, tyOk_b, tyOk_i, tyOk_s, tyOk_l, tyOk_t, ty_n, ty_b, ty_i, ty_s, ty_l, ty_t, k_nb, k_bb, k_ib, k_sb, k_ni, k_bi, k_ii, k_si, k_ns, k_bs, k_is, k_ss, k_ll, k_tt,
  Int.reduceNeg, Int.reducePow, Int.reduceLT, Int.reduceLE, Int.reduceAdd, Int.reduceSub, Int.reduceMul, Int.reduceToNat, Nat.reduceAdd, Nat.reduceLeDiff, Nat.reduceEqDiff, Int.reduceEq, reduceCtorEq, n1, n2, n3, n4, hn, hf]
theorem sp_law_near {ps qs : List (Str × Str)} {pr : List (Nat × Nat)} {low high : Int} {left : Bool} {A B : List Mv} {b : Int} (hb : 0 ≤ b ∧ b ≤ 1000) (hA : okB b ps.length A) (hB : okB b qs.length B) (hAl : A.length ≤ 100) (hBl : B.length ≤ 100) (hp : ps.length ≤ 100) (hq : qs.length ≤ 100)
    (hgp : ∀ p ∈ ps, gv (.str p.1)) (hgq : ∀ p ∈ qs, gv (.str p.1)) (hnp : (ps.map (·.1)).Nodup) (hnq : (qs.map (·.1)).Nodup) (hpr : ∀ x ∈ pr, x.1 < ps.length ∧ x.2 < qs.length) (hprl : pr.length ≤ 100) :
    f__law_made [.tuple [.str "near", .tuple (pr.map (prD2 ps qs)), .int low, .int high, .str (kpS left)], .tuple (ps.map fdD), .tuple (qs.map fdD), .list (A.map mvD), .list (B.map mvD)] = some (.list ((flw (nears ⟨pr.map (·.1), pr.map (·.2), low, high, left, qs.length⟩ A B)).map mvD)) := by
  have ok := nears_ok (N := ⟨pr.map (·.1), pr.map (·.2), low, high, left, qs.length⟩) hA hB hp hq hq
  have len := nears_len (N := ⟨pr.map (·.1), pr.map (·.2), low, high, left, qs.length⟩) hAl hBl
  have hf := sp_law_flow ok (by omega)
  have hcst : (qs.map fun _ => PyData.none) = List.replicate qs.length PyData.none := List.map_const' ..
  rw [← wo_eq]
  unfold f__law_made
  rw [wo_runV]
  show Ws g__law_made [some (.val (.tuple [.str "near", .tuple (pr.map (prD2 ps qs)), .int low, .int high, .str (kpS left)])), some (.val (.tuple (ps.map fdD))), some (.val (.tuple (qs.map fdD))), some (.val (.list (A.map mvD))), some (.val (.list (B.map mvD))), none, none, none, none, none, none] _
  unfold g__law_made
  simp only [backE, wipeE, wo_some, wo_none, wm_c, wm_var, wm_frz, wm_bin, wm_un, wm_tst, wm_tru, wm_truB, wm_chain, wm_and, wm_or, wm_not, wm_andV, wm_orV, wm_notV, wm_ifE, wm_nil, wm_cons, wm_app, wm_noP, wm_part, wm_sl, wm_pk, wm_io, wm_ix, wm_inB, wm_true, wm_seq, wm_rng1, wm_rng2,
  then_nx, then_ret, then_rof, then_brk, then_cnt, ws_next, ws_brk, ws_cnt, ws_seq, ws_if, ws_ret, ws_rof, ws_drop, ws_set, ws_own, ws_asg, wo_TN, wo_TNil, wo_TCons, wo_TTup, ws_ap, ws_setIx, ws_for, for_nil, turn_nx, turn_cnt, turn_brk, turn_ret, turn_rof, wm_lc, end_ret, end_nx, end_rof, end_io, ownOf_own, valOf_val, frz_val, frz_own, cOwn_own, peek_val, peek_own, by_val, by_own, canSet_none, canSet_val, canSet_own, lstOf_list,
  List.getElem?_cons_zero, List.getElem?_cons_succ, List.set_cons_zero, List.set_cons_succ, List.length_cons, List.length_nil, wo_ite, wo_bind, ↓reduceIte, and_true, true_and, and_self, Bool.false_eq_true, Bool.not_true, Bool.not_false, decide_eq_true_eq, decide_true, decide_false, oneInt_int, twoInts_int,
  add_ii, add_ll, add_tt, add_ss, sub_ii, mul_ii, mulS_ii, mod_ii, fdiv_ii, neg_i, le_ii, gt_ii, ge_ii, eqT_ii, eqT_ss, eqT_bb, eqT_nn, ltT_ii, ltT_ss, wo_eqD, wo_neD, wo_ltD, wo_inD, wo_ninD, is_n, isnt_n, is_bb, isnt_bb, isN, bOf_b, iOf_i, tru_b, tru_n, tru_i, tru_l, tru_t, seq_l, seq_t, tup_l, tup_t, lst_l, lst_t, len_l, len_t, int_i, int_b, abs_i, max_ii, min_ii, ix_li, ix_ti, cut_l, cut_t, flat_i, flat_b, flat_s, ix0, ix1, ix2, mkTup, mkLst,
  ws_par3, three_c, ws_grp, empty_own, lOwnD_own, wm_lcW, wm_getD, wm_ind, ix3, ix4, ix_m2, ix_m1, ix_p2, ix_p1, wm_newD, ws_setK, wm_get, wm_ixK, wm_sortN, ws_ext, dOwn_own, lOwn_own, lsD_list, step_nx, step_cnt, step_brk, step_ret, step_rof, wm_reve, rev_l, rev_t, wm_opBL, repr_l, sort_l, sum_l, wm_enum, enum_l, enum_t, enumL_nil, wm_dic, wm_kvn, wm_kvc, seq_s, mulT_si, len_s, ord_c, str_i, ty_d, k_lb, k_li, k_ls, k_tb, k_ti, k_ts, k_db, k_di, k_ds, k_lt, k_tl,
  isi_1, tyOk_n, tyOk_b, tyOk_i, tyOk_s, tyOk_l, tyOk_t, ty_n, ty_b, ty_i, ty_s, ty_l, ty_t, k_nb, k_bb, k_ib, k_sb, k_ni, k_bi, k_ii, k_si, k_ns, k_bs, k_is, k_ss, k_ll, k_tt,
  Int.reduceNeg, Int.reducePow, Int.reduceLT, Int.reduceLE, Int.reduceAdd, Int.reduceSub, Int.reduceMul, Int.reduceToNat, Nat.reduceAdd, Nat.reduceLeDiff, Nat.reduceEqDiff, Int.reduceEq, reduceCtorEq]
  generalize hN : (⟨pr.map (·.1), pr.map (·.2), low, high, left, qs.length⟩ : Nr) = N at ok len hf
  refine ws_forA mvD (fun p ρ => ∃ (o6 o7 o8 o9 : Option Cell), (canSet (some o6) = some () ∧ canSet (some o7) = some () ∧ canSet (some o8) = some () ∧ canSet (some o9) = some ()) ∧ ρ = [some (.val (.tuple [.str "near", .tuple (pr.map (prD2 ps qs)), .int low, .int high, .str (kpS left)])), some (.val (.tuple (ps.map fdD))), some (.val (.tuple (qs.map fdD))), some (.val (.list (A.map mvD))), some (.val (.list (B.map mvD))), some (.val (.list ((p.map (nearM N B)).flatten.map mvD))), o6, o7, o8, o9, none]) ⟨none, none, none, none, ⟨rfl, rfl, rfl, rfl⟩, rfl⟩ ?_ ?_
  · rintro p m s ρ e ⟨o6, o7, o8, o9, ⟨h6, h7, h8, h9⟩, rfl⟩
    have hm : m ∈ A := by rw [e]; simp
    have om := hA.1 m hm
    have lm := (hA.2 m hm).1
    have wm := (hA.2 m hm).2
    have hpl := congrArg List.length e
    rw [List.length_append, List.length_cons] at hpl
    have hacc : (p.map (nearM N B)).flatten.length ≤ 101 * p.length := by
      have := len_flat (n := 101) (p := p.map (nearM N B)) fun y hy => by
        obtain ⟨z, _, rfl⟩ := List.mem_map.mp hy
        have := nearM_len N B z
        omega
      rw [List.length_map] at this
      exact this
    have happ : ((p ++ [m]).map (nearM N B)).flatten = (p.map (nearM N B)).flatten ++ nearM N B m := by simp
    rw [happ]
    generalize (p.map (nearM N B)).flatten = Acc at hacc ⊢
    simp only [backE, wipeE, wo_some, wo_none, wm_c, wm_var, wm_frz, wm_bin, wm_un, wm_tst, wm_tru, wm_truB, wm_chain, wm_and, wm_or, wm_not, wm_andV, wm_orV, wm_notV, wm_ifE, wm_nil, wm_cons, wm_app, wm_noP, wm_part, wm_sl, wm_pk, wm_io, wm_ix, wm_inB, wm_true, wm_seq, wm_rng1, wm_rng2,
  then_nx, then_ret, then_rof, then_brk, then_cnt, ws_next, ws_brk, ws_cnt, ws_seq, ws_if, ws_ret, ws_rof, ws_drop, ws_set, ws_own, ws_asg, wo_TN, wo_TNil, wo_TCons, wo_TTup, ws_ap, ws_setIx, ws_for, for_nil, turn_nx, turn_cnt, turn_brk, turn_ret, turn_rof, wm_lc, end_ret, end_nx, end_rof, end_io, ownOf_own, valOf_val, frz_val, frz_own, cOwn_own, peek_val, peek_own, by_val, by_own, canSet_none, canSet_val, canSet_own, lstOf_list,
  List.getElem?_cons_zero, List.getElem?_cons_succ, List.set_cons_zero, List.set_cons_succ, List.length_cons, List.length_nil, wo_ite, wo_bind, ↓reduceIte, and_true, true_and, and_self, Bool.false_eq_true, Bool.not_true, Bool.not_false, decide_eq_true_eq, decide_true, decide_false, oneInt_int, twoInts_int,
  add_ii, add_ll, add_tt, add_ss, sub_ii, mul_ii, mulS_ii, mod_ii, fdiv_ii, neg_i, le_ii, gt_ii, ge_ii, eqT_ii, eqT_ss, eqT_bb, eqT_nn, ltT_ii, ltT_ss, wo_eqD, wo_neD, wo_ltD, wo_inD, wo_ninD, is_n, isnt_n, is_bb, isnt_bb, isN, bOf_b, iOf_i, tru_b, tru_n, tru_i, tru_l, tru_t, seq_l, seq_t, tup_l, tup_t, lst_l, lst_t, len_l, len_t, int_i, int_b, abs_i, max_ii, min_ii, ix_li, ix_ti, cut_l, cut_t, flat_i, flat_b, flat_s, ix0, ix1, ix2, mkTup, mkLst,
  ws_par3, three_c, ws_grp, empty_own, lOwnD_own, wm_lcW, wm_getD, wm_ind, ix3, ix4, ix_m2, ix_m1, ix_p2, ix_p1, wm_newD, ws_setK, wm_get, wm_ixK, wm_sortN, ws_ext, dOwn_own, lOwn_own, lsD_list, step_nx, step_cnt, step_brk, step_ret, step_rof, wm_reve, rev_l, rev_t, wm_opBL, repr_l, sort_l, sum_l, wm_enum, enum_l, enum_t, enumL_nil, wm_dic, wm_kvn, wm_kvc, seq_s, mulT_si, len_s, ord_c, str_i, ty_d, k_lb, k_li, k_ls, k_tb, k_ti, k_ts, k_db, k_di, k_ds, k_lt, k_tl,
  isi_1, tyOk_n, tyOk_b, tyOk_i, tyOk_s, tyOk_l, tyOk_t, ty_n, ty_b, ty_i, ty_s, ty_l, ty_t, k_nb, k_bb, k_ib, k_sb, k_ni, k_bi, k_ii, k_si, k_ns, k_bs, k_is, k_ss, k_ll, k_tt,
  Int.reduceNeg, Int.reducePow, Int.reduceLT, Int.reduceLE, Int.reduceAdd, Int.reduceSub, Int.reduceMul, Int.reduceToNat, Nat.reduceAdd, Nat.reduceLeDiff, Nat.reduceEqDiff, Int.reduceEq, reduceCtorEq, h6, h7]
    refine ws_forA mvD (fun q ρ => ∃ (o8 o9 : Option Cell), (canSet (some o8) = some () ∧ canSet (some o9) = some ()) ∧ ρ = [some (.val (.tuple [.str "near", .tuple (pr.map (prD2 ps qs)), .int low, .int high, .str (kpS left)])), some (.val (.tuple (ps.map fdD))), some (.val (.tuple (qs.map fdD))), some (.val (.list (A.map mvD))), some (.val (.list (B.map mvD))), some (.val (.list (Acc.map mvD))), some (.val (mvD m)), some (.own false (.list (((q.filter fun o => closeB N m o && meetB N m o).map (joinM m)).map mvD))), o8, o9, none]) ⟨o8, o9, ⟨h8, h9⟩, rfl⟩ ?_ ?_
    · clear h8 h9
      rintro q o s' ρ e' ⟨o8, o9, ⟨h8, h9⟩, rfl⟩
      have ho : o ∈ B := by rw [e']; simp
      have oo := hB.1 o ho
      have lo := (hB.2 o ho).1
      have wo := (hB.2 o ho).2
      have hql := congrArg List.length e'
      rw [List.length_append, List.length_cons] at hql
      have hqf := List.length_filter_le (fun o => closeB N m o && meetB N m o) q
      have hlog : m.2.natAbs.log2 + o.2.natAbs.log2 < 1000000 := small_log ⟨by omega, by omega⟩ ⟨by omega, by omega⟩
      have hrl : m.1.2.length + o.1.2.length ≤ 16777216 := by omega
      have hmt := sp_law_meet (pr := pr) hgp hgq hnp hnq hp hq hpr hprl om oo lm lo
      have hmb : eqR (kfo (pr.map (·.1)) m.1.2) (kfo (pr.map (·.2)) o.1.2) = meetB N m o := by
        subst hN
        exact eqR_comm
      rw [hmb] at hmt
      have hcl : closeB N m o = (decide (m.1.1 + low ≤ o.1.1) && decide (o.1.1 ≤ m.1.1 + high)) := by subst hN; rfl
      have hfa : (q ++ [o]).filter (fun o => closeB N m o && meetB N m o) = if (closeB N m o && meetB N m o) = true then q.filter (fun o => closeB N m o && meetB N m o) ++ [o] else q.filter (fun o => closeB N m o && meetB N m o) := by
        rw [List.filter_append]
        by_cases z : (closeB N m o && meetB N m o) = true
        · rw [if_pos z, List.filter_cons_of_pos (p := fun o => closeB N m o && meetB N m o) z]
          rfl
        · rw [if_neg z, List.filter_cons_of_neg (p := fun o => closeB N m o && meetB N m o) z, List.filter_nil, List.append_nil]
      rw [hfa]
      generalize q.filter (fun o => closeB N m o && meetB N m o) = Q at hqf ⊢
      rw [hcl]
      by_cases c1 : m.1.1 + low ≤ o.1.1
      · by_cases c2 : o.1.1 ≤ m.1.1 + high
        · cases c3 : meetB N m o with
          | true =>
            rw [c3] at hmt
            simp only [backE, wipeE, wo_some, wo_none, wm_c, wm_var, wm_frz, wm_bin, wm_un, wm_tst, wm_tru, wm_truB, wm_chain, wm_and, wm_or, wm_not, wm_andV, wm_orV, wm_notV, wm_ifE, wm_nil, wm_cons, wm_app, wm_noP, wm_part, wm_sl, wm_pk, wm_io, wm_ix, wm_inB, wm_true, wm_seq, wm_rng1, wm_rng2,
  then_nx, then_ret, then_rof, then_brk, then_cnt, ws_next, ws_brk, ws_cnt, ws_seq, ws_if, ws_ret, ws_rof, ws_drop, ws_set, ws_own, ws_asg, wo_TN, wo_TNil, wo_TCons, wo_TTup, ws_ap, ws_setIx, ws_for, for_nil, turn_nx, turn_cnt, turn_brk, turn_ret, turn_rof, wm_lc, end_ret, end_nx, end_rof, end_io, ownOf_own, valOf_val, frz_val, frz_own, cOwn_own, peek_val, peek_own, by_val, by_own, canSet_none, canSet_val, canSet_own, lstOf_list,
  List.getElem?_cons_zero, List.getElem?_cons_succ, List.set_cons_zero, List.set_cons_succ, List.length_cons, List.length_nil, wo_ite, wo_bind, ↓reduceIte, and_true, true_and, and_self, Bool.false_eq_true, Bool.not_true, Bool.not_false, decide_eq_true_eq, decide_true, decide_false, oneInt_int, twoInts_int,
  add_ii, add_ll, add_tt, add_ss, sub_ii, mul_ii, mulS_ii, mod_ii, fdiv_ii, neg_i, le_ii, gt_ii, ge_ii, eqT_ii, eqT_ss, eqT_bb, eqT_nn, ltT_ii, ltT_ss, wo_eqD, wo_neD, wo_ltD, wo_inD, wo_ninD, is_n, isnt_n, is_bb, isnt_bb, isN, bOf_b, iOf_i, tru_b, tru_n, tru_i, tru_l, tru_t, seq_l, seq_t, tup_l, tup_t, lst_l, lst_t, len_l, len_t, int_i, int_b, abs_i, max_ii, min_ii, ix_li, ix_ti, cut_l, cut_t, flat_i, flat_b, flat_s, ix0, ix1, ix2, mkTup, mkLst,
  ws_par3, three_c, ws_grp, empty_own, lOwnD_own, wm_lcW, wm_getD, wm_ind, ix3, ix4, ix_m2, ix_m1, ix_p2, ix_p1, wm_newD, ws_setK, wm_get, wm_ixK, wm_sortN, ws_ext, dOwn_own, lOwn_own, lsD_list, step_nx, step_cnt, step_brk, step_ret, step_rof, wm_reve, rev_l, rev_t, wm_opBL, repr_l, sort_l, sum_l, wm_enum, enum_l, enum_t, enumL_nil, wm_dic, wm_kvn, wm_kvc, seq_s, mulT_si, len_s, ord_c, str_i, ty_d, k_lb, k_li, k_ls, k_tb, k_ti, k_ts, k_db, k_di, k_ds, k_lt, k_tl,
  isi_1, tyOk_n, tyOk_b, tyOk_i, tyOk_s, tyOk_l, tyOk_t, ty_n, ty_b, ty_i, ty_s, ty_l, ty_t, k_nb, k_bb, k_ib, k_sb, k_ni, k_bi, k_ii, k_si, k_ns, k_bs, k_is, k_ss, k_ll, k_tt,
  Int.reduceNeg, Int.reducePow, Int.reduceLT, Int.reduceLE, Int.reduceAdd, Int.reduceSub, Int.reduceMul, Int.reduceToNat, Nat.reduceAdd, Nat.reduceLeDiff, Nat.reduceEqDiff, Int.reduceEq, reduceCtorEq, mvD, h8, h9, c1, c2, hmt, hlog, hrl, List.length_map]
            exact ⟨by omega, some (.val (mvD o)), some (.val (.bool true)), ⟨rfl, rfl⟩, by simp [mvD, joinM]⟩
          | false =>
            rw [c3] at hmt
            simp only [backE, wipeE, wo_some, wo_none, wm_c, wm_var, wm_frz, wm_bin, wm_un, wm_tst, wm_tru, wm_truB, wm_chain, wm_and, wm_or, wm_not, wm_andV, wm_orV, wm_notV, wm_ifE, wm_nil, wm_cons, wm_app, wm_noP, wm_part, wm_sl, wm_pk, wm_io, wm_ix, wm_inB, wm_true, wm_seq, wm_rng1, wm_rng2,
  then_nx, then_ret, then_rof, then_brk, then_cnt, ws_next, ws_brk, ws_cnt, ws_seq, ws_if, ws_ret, ws_rof, ws_drop, ws_set, ws_own, ws_asg, wo_TN, wo_TNil, wo_TCons, wo_TTup, ws_ap, ws_setIx, ws_for, for_nil, turn_nx, turn_cnt, turn_brk, turn_ret, turn_rof, wm_lc, end_ret, end_nx, end_rof, end_io, ownOf_own, valOf_val, frz_val, frz_own, cOwn_own, peek_val, peek_own, by_val, by_own, canSet_none, canSet_val, canSet_own, lstOf_list,
  List.getElem?_cons_zero, List.getElem?_cons_succ, List.set_cons_zero, List.set_cons_succ, List.length_cons, List.length_nil, wo_ite, wo_bind, ↓reduceIte, and_true, true_and, and_self, Bool.false_eq_true, Bool.not_true, Bool.not_false, decide_eq_true_eq, decide_true, decide_false, oneInt_int, twoInts_int,
  add_ii, add_ll, add_tt, add_ss, sub_ii, mul_ii, mulS_ii, mod_ii, fdiv_ii, neg_i, le_ii, gt_ii, ge_ii, eqT_ii, eqT_ss, eqT_bb, eqT_nn, ltT_ii, ltT_ss, wo_eqD, wo_neD, wo_ltD, wo_inD, wo_ninD, is_n, isnt_n, is_bb, isnt_bb, isN, bOf_b, iOf_i, tru_b, tru_n, tru_i, tru_l, tru_t, seq_l, seq_t, tup_l, tup_t, lst_l, lst_t, len_l, len_t, int_i, int_b, abs_i, max_ii, min_ii, ix_li, ix_ti, cut_l, cut_t, flat_i, flat_b, flat_s, ix0, ix1, ix2, mkTup, mkLst,
  ws_par3, three_c, ws_grp, empty_own, lOwnD_own, wm_lcW, wm_getD, wm_ind, ix3, ix4, ix_m2, ix_m1, ix_p2, ix_p1, wm_newD, ws_setK, wm_get, wm_ixK, wm_sortN, ws_ext, dOwn_own, lOwn_own, lsD_list, step_nx, step_cnt, step_brk, step_ret, step_rof, wm_reve, rev_l, rev_t, wm_opBL, repr_l, sort_l, sum_l, wm_enum, enum_l, enum_t, enumL_nil, wm_dic, wm_kvn, wm_kvc, seq_s, mulT_si, len_s, ord_c, str_i, ty_d, k_lb, k_li, k_ls, k_tb, k_ti, k_ts, k_db, k_di, k_ds, k_lt, k_tl,
  isi_1, tyOk_n, tyOk_b, tyOk_i, tyOk_s, tyOk_l, tyOk_t, ty_n, ty_b, ty_i, ty_s, ty_l, ty_t, k_nb, k_bb, k_ib, k_sb, k_ni, k_bi, k_ii, k_si, k_ns, k_bs, k_is, k_ss, k_ll, k_tt,
  Int.reduceNeg, Int.reducePow, Int.reduceLT, Int.reduceLE, Int.reduceAdd, Int.reduceSub, Int.reduceMul, Int.reduceToNat, Nat.reduceAdd, Nat.reduceLeDiff, Nat.reduceEqDiff, Int.reduceEq, reduceCtorEq, mvD, h8, h9, c1, c2, hmt]
            exact ⟨some (.val (mvD o)), some (.val (.bool true)), ⟨rfl, rfl⟩, by simp [mvD]⟩
        · simp only [backE, wipeE, wo_some, wo_none, wm_c, wm_var, wm_frz, wm_bin, wm_un, wm_tst, wm_tru, wm_truB, wm_chain, wm_and, wm_or, wm_not, wm_andV, wm_orV, wm_notV, wm_ifE, wm_nil, wm_cons, wm_app, wm_noP, wm_part, wm_sl, wm_pk, wm_io, wm_ix, wm_inB, wm_true, wm_seq, wm_rng1, wm_rng2,
  then_nx, then_ret, then_rof, then_brk, then_cnt, ws_next, ws_brk, ws_cnt, ws_seq, ws_if, ws_ret, ws_rof, ws_drop, ws_set, ws_own, ws_asg, wo_TN, wo_TNil, wo_TCons, wo_TTup, ws_ap, ws_setIx, ws_for, for_nil, turn_nx, turn_cnt, turn_brk, turn_ret, turn_rof, wm_lc, end_ret, end_nx, end_rof, end_io, ownOf_own, valOf_val, frz_val, frz_own, cOwn_own, peek_val, peek_own, by_val, by_own, canSet_none, canSet_val, canSet_own, lstOf_list,
  List.getElem?_cons_zero, List.getElem?_cons_succ, List.set_cons_zero, List.set_cons_succ, List.length_cons, List.length_nil, wo_ite, wo_bind, ↓reduceIte, and_true, true_and, and_self, Bool.false_eq_true, Bool.not_true, Bool.not_false, decide_eq_true_eq, decide_true, decide_false, oneInt_int, twoInts_int,
  add_ii, add_ll, add_tt, add_ss, sub_ii, mul_ii, mulS_ii, mod_ii, fdiv_ii, neg_i, le_ii, gt_ii, ge_ii, eqT_ii, eqT_ss, eqT_bb, eqT_nn, ltT_ii, ltT_ss, wo_eqD, wo_neD, wo_ltD, wo_inD, wo_ninD, is_n, isnt_n, is_bb, isnt_bb, isN, bOf_b, iOf_i, tru_b, tru_n, tru_i, tru_l, tru_t, seq_l, seq_t, tup_l, tup_t, lst_l, lst_t, len_l, len_t, int_i, int_b, abs_i, max_ii, min_ii, ix_li, ix_ti, cut_l, cut_t, flat_i, flat_b, flat_s, ix0, ix1, ix2, mkTup, mkLst,
  ws_par3, three_c, ws_grp, empty_own, lOwnD_own, wm_lcW, wm_getD, wm_ind, ix3, ix4, ix_m2, ix_m1, ix_p2, ix_p1, wm_newD, ws_setK, wm_get, wm_ixK, wm_sortN, ws_ext, dOwn_own, lOwn_own, lsD_list, step_nx, step_cnt, step_brk, step_ret, step_rof, wm_reve, rev_l, rev_t, wm_opBL, repr_l, sort_l, sum_l, wm_enum, enum_l, enum_t, enumL_nil, wm_dic, wm_kvn, wm_kvc, seq_s, mulT_si, len_s, ord_c, str_i, ty_d, k_lb, k_li, k_ls, k_tb, k_ti, k_ts, k_db, k_di, k_ds, k_lt, k_tl,
  isi_1, tyOk_n, tyOk_b, tyOk_i, tyOk_s, tyOk_l, tyOk_t, ty_n, ty_b, ty_i, ty_s, ty_l, ty_t, k_nb, k_bb, k_ib, k_sb, k_ni, k_bi, k_ii, k_si, k_ns, k_bs, k_is, k_ss, k_ll, k_tt,
  Int.reduceNeg, Int.reducePow, Int.reduceLT, Int.reduceLE, Int.reduceAdd, Int.reduceSub, Int.reduceMul, Int.reduceToNat, Nat.reduceAdd, Nat.reduceLeDiff, Nat.reduceEqDiff, Int.reduceEq, reduceCtorEq, mvD, h8, h9, c1, c2]
          exact ⟨some (.val (mvD o)), some (.val (.bool false)), ⟨rfl, rfl⟩, by simp [mvD]⟩
      · simp only [backE, wipeE, wo_some, wo_none, wm_c, wm_var, wm_frz, wm_bin, wm_un, wm_tst, wm_tru, wm_truB, wm_chain, wm_and, wm_or, wm_not, wm_andV, wm_orV, wm_notV, wm_ifE, wm_nil, wm_cons, wm_app, wm_noP, wm_part, wm_sl, wm_pk, wm_io, wm_ix, wm_inB, wm_true, wm_seq, wm_rng1, wm_rng2,
  then_nx, then_ret, then_rof, then_brk, then_cnt, ws_next, ws_brk, ws_cnt, ws_seq, ws_if, ws_ret, ws_rof, ws_drop, ws_set, ws_own, ws_asg, wo_TN, wo_TNil, wo_TCons, wo_TTup, ws_ap, ws_setIx, ws_for, for_nil, turn_nx, turn_cnt, turn_brk, turn_ret, turn_rof, wm_lc, end_ret, end_nx, end_rof, end_io, ownOf_own, valOf_val, frz_val, frz_own, cOwn_own, peek_val, peek_own, by_val, by_own, canSet_none, canSet_val, canSet_own, lstOf_list,
  List.getElem?_cons_zero, List.getElem?_cons_succ, List.set_cons_zero, List.set_cons_succ, List.length_cons, List.length_nil, wo_ite, wo_bind, ↓reduceIte, and_true, true_and, and_self, Bool.false_eq_true, Bool.not_true, Bool.not_false, decide_eq_true_eq, decide_true, decide_false, oneInt_int, twoInts_int,
  add_ii, add_ll, add_tt, add_ss, sub_ii, mul_ii, mulS_ii, mod_ii, fdiv_ii, neg_i, le_ii, gt_ii, ge_ii, eqT_ii, eqT_ss, eqT_bb, eqT_nn, ltT_ii, ltT_ss, wo_eqD, wo_neD, wo_ltD, wo_inD, wo_ninD, is_n, isnt_n, is_bb, isnt_bb, isN, bOf_b, iOf_i, tru_b, tru_n, tru_i, tru_l, tru_t, seq_l, seq_t, tup_l, tup_t, lst_l, lst_t, len_l, len_t, int_i, int_b, abs_i, max_ii, min_ii, ix_li, ix_ti, cut_l, cut_t, flat_i, flat_b, flat_s, ix0, ix1, ix2, mkTup, mkLst,
  ws_par3, three_c, ws_grp, empty_own, lOwnD_own, wm_lcW, wm_getD, wm_ind, ix3, ix4, ix_m2, ix_m1, ix_p2, ix_p1, wm_newD, ws_setK, wm_get, wm_ixK, wm_sortN, ws_ext, dOwn_own, lOwn_own, lsD_list, step_nx, step_cnt, step_brk, step_ret, step_rof, wm_reve, rev_l, rev_t, wm_opBL, repr_l, sort_l, sum_l, wm_enum, enum_l, enum_t, enumL_nil, wm_dic, wm_kvn, wm_kvc, seq_s, mulT_si, len_s, ord_c, str_i, ty_d, k_lb, k_li, k_ls, k_tb, k_ti, k_ts, k_db, k_di, k_ds, k_lt, k_tl,
  isi_1, tyOk_n, tyOk_b, tyOk_i, tyOk_s, tyOk_l, tyOk_t, ty_n, ty_b, ty_i, ty_s, ty_l, ty_t, k_nb, k_bb, k_ib, k_sb, k_ni, k_bi, k_ii, k_si, k_ns, k_bs, k_is, k_ss, k_ll, k_tt,
  Int.reduceNeg, Int.reducePow, Int.reduceLT, Int.reduceLE, Int.reduceAdd, Int.reduceSub, Int.reduceMul, Int.reduceToNat, Nat.reduceAdd, Nat.reduceLeDiff, Nat.reduceEqDiff, Int.reduceEq, reduceCtorEq, mvD, h8, h9, c1]
        exact ⟨some (.val (mvD o)), some (.val (.bool false)), ⟨rfl, rfl⟩, by simp [mvD]⟩
    · clear h8 h9
      rintro ρ' ⟨o8, o9, ⟨h8, h9⟩, rfl⟩
      have hmm : (B.filter fun o => closeB N m o && meetB N m o).map (joinM m) = metM N B m := rfl
      have hml := metM_len N B m
      have okM : okL (metM N B m) := fun x hx => by
        obtain ⟨o, ho, rfl⟩ := List.mem_map.mp hx
        have ho := (List.mem_filter.mp ho).1
        exact okL_join om (hB.1 o ho) (by omega) (by have := (hB.2 o ho).1; omega)
      have hnear : nearM N B m = if (metM N B m).length = 0 ∧ N.left = true then [aloneM N m] else metM N B m := rfl
      rw [hmm, hnear]
      generalize metM N B m = M at hml okM ⊢
      have heq := eq_nil_flow okM
      have hrl : m.1.2.length + qs.length ≤ 16777216 := by omega
      have hleft : N.left = left := by subst hN; rfl
      have hnn : N.nn = qs.length := by subst hN; rfl
      have hhigh : N.high = high := by subst hN; rfl
      rw [hleft]
      by_cases z : M.length = 0
      · have zn : M = [] := List.eq_nil_of_length_eq_zero z
        subst zn
        cases hl : left with
        | true =>
          have kp := kp_left true
          simp only [backE, wipeE, wo_some, wo_none, wm_c, wm_var, wm_frz, wm_bin, wm_un, wm_tst, wm_tru, wm_truB, wm_chain, wm_and, wm_or, wm_not, wm_andV, wm_orV, wm_notV, wm_ifE, wm_nil, wm_cons, wm_app, wm_noP, wm_part, wm_sl, wm_pk, wm_io, wm_ix, wm_inB, wm_true, wm_seq, wm_rng1, wm_rng2,
  then_nx, then_ret, then_rof, then_brk, then_cnt, ws_next, ws_brk, ws_cnt, ws_seq, ws_if, ws_ret, ws_rof, ws_drop, ws_set, ws_own, ws_asg, wo_TN, wo_TNil, wo_TCons, wo_TTup, ws_ap, ws_setIx, ws_for, for_nil, turn_nx, turn_cnt, turn_brk, turn_ret, turn_rof, wm_lc, end_ret, end_nx, end_rof, end_io, ownOf_own, valOf_val, frz_val, frz_own, cOwn_own, peek_val, peek_own, by_val, by_own, canSet_none, canSet_val, canSet_own, lstOf_list,
  List.getElem?_cons_zero, List.getElem?_cons_succ, List.set_cons_zero, List.set_cons_succ, List.length_cons, List.length_nil, wo_ite, wo_bind, ↓reduceIte, and_true, true_and, and_self, Bool.false_eq_true, Bool.not_true, Bool.not_false, decide_eq_true_eq, decide_true, decide_false, oneInt_int, twoInts_int,
  add_ii, add_ll, add_tt, add_ss, sub_ii, mul_ii, mulS_ii, mod_ii, fdiv_ii, neg_i, le_ii, gt_ii, ge_ii, eqT_ii, eqT_ss, eqT_bb, eqT_nn, ltT_ii, ltT_ss, wo_eqD, wo_neD, wo_ltD, wo_inD, wo_ninD, is_n, isnt_n, is_bb, isnt_bb, isN, bOf_b, iOf_i, tru_b, tru_n, tru_i, tru_l, tru_t, seq_l, seq_t, tup_l, tup_t, lst_l, lst_t, len_l, len_t, int_i, int_b, abs_i, max_ii, min_ii, ix_li, ix_ti, cut_l, cut_t, flat_i, flat_b, flat_s, ix0, ix1, ix2, mkTup, mkLst,
  ws_par3, three_c, ws_grp, empty_own, lOwnD_own, wm_lcW, wm_getD, wm_ind, ix3, ix4, ix_m2, ix_m1, ix_p2, ix_p1, wm_newD, ws_setK, wm_get, wm_ixK, wm_sortN, ws_ext, dOwn_own, lOwn_own, lsD_list, step_nx, step_cnt, step_brk, step_ret, step_rof, wm_reve, rev_l, rev_t, wm_opBL, repr_l, sort_l, sum_l, wm_enum, enum_l, enum_t, enumL_nil, wm_dic, wm_kvn, wm_kvc, seq_s, mulT_si, len_s, ord_c, str_i, ty_d, k_lb, k_li, k_ls, k_tb, k_ti, k_ts, k_db, k_di, k_ds, k_lt, k_tl,
  isi_1, tyOk_n, tyOk_b, tyOk_i, tyOk_s, tyOk_l, tyOk_t, ty_n, ty_b, ty_i, ty_s, ty_l, ty_t, k_nb, k_bb, k_ib, k_sb, k_ni, k_bi, k_ii, k_si, k_ns, k_bs, k_is, k_ss, k_ll, k_tt,
  Int.reduceNeg, Int.reducePow, Int.reduceLT, Int.reduceLE, Int.reduceAdd, Int.reduceSub, Int.reduceMul, Int.reduceToNat, Nat.reduceAdd, Nat.reduceLeDiff, Nat.reduceEqDiff, Int.reduceEq, reduceCtorEq, heq, kp, mvD, List.length_map]
          refine ⟨⟨by omega, rfl⟩, ?_⟩
          refine lc_mapA fdD (fun _ => PyData.none) _ (fun x _ => ?_) ?_
          · show Wo (gTN 10 _ [_, _, _, _, _, _, _, _, _, _, none]) _
            simp only [backE, wipeE, wo_some, wo_none, wm_c, wm_var, wm_frz, wm_bin, wm_un, wm_tst, wm_tru, wm_truB, wm_chain, wm_and, wm_or, wm_not, wm_andV, wm_orV, wm_notV, wm_ifE, wm_nil, wm_cons, wm_app, wm_noP, wm_part, wm_sl, wm_pk, wm_io, wm_ix, wm_inB, wm_true, wm_seq, wm_rng1, wm_rng2,
  then_nx, then_ret, then_rof, then_brk, then_cnt, ws_next, ws_brk, ws_cnt, ws_seq, ws_if, ws_ret, ws_rof, ws_drop, ws_set, ws_own, ws_asg, wo_TN, wo_TNil, wo_TCons, wo_TTup, ws_ap, ws_setIx, ws_for, for_nil, turn_nx, turn_cnt, turn_brk, turn_ret, turn_rof, wm_lc, end_ret, end_nx, end_rof, end_io, ownOf_own, valOf_val, frz_val, frz_own, cOwn_own, peek_val, peek_own, by_val, by_own, canSet_none, canSet_val, canSet_own, lstOf_list,
  List.getElem?_cons_zero, List.getElem?_cons_succ, List.set_cons_zero, List.set_cons_succ, List.length_cons, List.length_nil, wo_ite, wo_bind, ↓reduceIte, and_true, true_and, and_self, Bool.false_eq_true, Bool.not_true, Bool.not_false, decide_eq_true_eq, decide_true, decide_false, oneInt_int, twoInts_int,
  add_ii, add_ll, add_tt, add_ss, sub_ii, mul_ii, mulS_ii, mod_ii, fdiv_ii, neg_i, le_ii, gt_ii, ge_ii, eqT_ii, eqT_ss, eqT_bb, eqT_nn, ltT_ii, ltT_ss, wo_eqD, wo_neD, wo_ltD, wo_inD, wo_ninD, is_n, isnt_n, is_bb, isnt_bb, isN, bOf_b, iOf_i, tru_b, tru_n, tru_i, tru_l, tru_t, seq_l, seq_t, tup_l, tup_t, lst_l, lst_t, len_l, len_t, int_i, int_b, abs_i, max_ii, min_ii, ix_li, ix_ti, cut_l, cut_t, flat_i, flat_b, flat_s, ix0, ix1, ix2, mkTup, mkLst,
  ws_par3, three_c, ws_grp, empty_own, lOwnD_own, wm_lcW, wm_getD, wm_ind, ix3, ix4, ix_m2, ix_m1, ix_p2, ix_p1, wm_newD, ws_setK, wm_get, wm_ixK, wm_sortN, ws_ext, dOwn_own, lOwn_own, lsD_list, step_nx, step_cnt, step_brk, step_ret, step_rof, wm_reve, rev_l, rev_t, wm_opBL, repr_l, sort_l, sum_l, wm_enum, enum_l, enum_t, enumL_nil, wm_dic, wm_kvn, wm_kvc, seq_s, mulT_si, len_s, ord_c, str_i, ty_d, k_lb, k_li, k_ls, k_tb, k_ti, k_ts, k_db, k_di, k_ds, k_lt, k_tl,
  isi_1, tyOk_n, tyOk_b, tyOk_i, tyOk_s, tyOk_l, tyOk_t, ty_n, ty_b, ty_i, ty_s, ty_l, ty_t, k_nb, k_bb, k_ib, k_sb, k_ni, k_bi, k_ii, k_si, k_ns, k_bs, k_is, k_ss, k_ll, k_tt,
  Int.reduceNeg, Int.reducePow, Int.reduceLT, Int.reduceLE, Int.reduceAdd, Int.reduceSub, Int.reduceMul, Int.reduceToNat, Nat.reduceAdd, Nat.reduceLeDiff, Nat.reduceEqDiff, Int.reduceEq, reduceCtorEq]
            all_goals rfl
          · rw [hcst]
            simp only [backE, wipeE, wo_some, wo_none, wm_c, wm_var, wm_frz, wm_bin, wm_un, wm_tst, wm_tru, wm_truB, wm_chain, wm_and, wm_or, wm_not, wm_andV, wm_orV, wm_notV, wm_ifE, wm_nil, wm_cons, wm_app, wm_noP, wm_part, wm_sl, wm_pk, wm_io, wm_ix, wm_inB, wm_true, wm_seq, wm_rng1, wm_rng2,
  then_nx, then_ret, then_rof, then_brk, then_cnt, ws_next, ws_brk, ws_cnt, ws_seq, ws_if, ws_ret, ws_rof, ws_drop, ws_set, ws_own, ws_asg, wo_TN, wo_TNil, wo_TCons, wo_TTup, ws_ap, ws_setIx, ws_for, for_nil, turn_nx, turn_cnt, turn_brk, turn_ret, turn_rof, wm_lc, end_ret, end_nx, end_rof, end_io, ownOf_own, valOf_val, frz_val, frz_own, cOwn_own, peek_val, peek_own, by_val, by_own, canSet_none, canSet_val, canSet_own, lstOf_list,
  List.getElem?_cons_zero, List.getElem?_cons_succ, List.set_cons_zero, List.set_cons_succ, List.length_cons, List.length_nil, wo_ite, wo_bind, ↓reduceIte, and_true, true_and, and_self, Bool.false_eq_true, Bool.not_true, Bool.not_false, decide_eq_true_eq, decide_true, decide_false, oneInt_int, twoInts_int,
  add_ii, add_ll, add_tt, add_ss, sub_ii, mul_ii, mulS_ii, mod_ii, fdiv_ii, neg_i, le_ii, gt_ii, ge_ii, eqT_ii, eqT_ss, eqT_bb, eqT_nn, ltT_ii, ltT_ss, wo_eqD, wo_neD, wo_ltD, wo_inD, wo_ninD, is_n, isnt_n, is_bb, isnt_bb, isN, bOf_b, iOf_i, tru_b, tru_n, tru_i, tru_l, tru_t, seq_l, seq_t, tup_l, tup_t, lst_l, lst_t, len_l, len_t, int_i, int_b, abs_i, max_ii, min_ii, ix_li, ix_ti, cut_l, cut_t, flat_i, flat_b, flat_s, ix0, ix1, ix2, mkTup, mkLst,
  ws_par3, three_c, ws_grp, empty_own, lOwnD_own, wm_lcW, wm_getD, wm_ind, ix3, ix4, ix_m2, ix_m1, ix_p2, ix_p1, wm_newD, ws_setK, wm_get, wm_ixK, wm_sortN, ws_ext, dOwn_own, lOwn_own, lsD_list, step_nx, step_cnt, step_brk, step_ret, step_rof, wm_reve, rev_l, rev_t, wm_opBL, repr_l, sort_l, sum_l, wm_enum, enum_l, enum_t, enumL_nil, wm_dic, wm_kvn, wm_kvc, seq_s, mulT_si, len_s, ord_c, str_i, ty_d, k_lb, k_li, k_ls, k_tb, k_ti, k_ts, k_db, k_di, k_ds, k_lt, k_tl,
  isi_1, tyOk_n, tyOk_b, tyOk_i, tyOk_s, tyOk_l, tyOk_t, ty_n, ty_b, ty_i, ty_s, ty_l, ty_t, k_nb, k_bb, k_ib, k_sb, k_ni, k_bi, k_ii, k_si, k_ns, k_bs, k_is, k_ss, k_ll, k_tt,
  Int.reduceNeg, Int.reducePow, Int.reduceLT, Int.reduceLE, Int.reduceAdd, Int.reduceSub, Int.reduceMul, Int.reduceToNat, Nat.reduceAdd, Nat.reduceLeDiff, Nat.reduceEqDiff, Int.reduceEq, reduceCtorEq, backE, hrl, List.length_map, List.length_replicate]
            rw [if_pos (by simp only [List.map_nil, List.nil_append, List.length_singleton]; omega)]
            exact ⟨by decide, some (.val (mvD m)), some (.val (.list [mvD (aloneM N m)])), o8, o9, ⟨rfl, rfl, h8, h9⟩, by simp [aloneM, mvD, hnn, hhigh]⟩
        | false =>
          have kp := kp_left false
          simp only [backE, wipeE, wo_some, wo_none, wm_c, wm_var, wm_frz, wm_bin, wm_un, wm_tst, wm_tru, wm_truB, wm_chain, wm_and, wm_or, wm_not, wm_andV, wm_orV, wm_notV, wm_ifE, wm_nil, wm_cons, wm_app, wm_noP, wm_part, wm_sl, wm_pk, wm_io, wm_ix, wm_inB, wm_true, wm_seq, wm_rng1, wm_rng2,
  then_nx, then_ret, then_rof, then_brk, then_cnt, ws_next, ws_brk, ws_cnt, ws_seq, ws_if, ws_ret, ws_rof, ws_drop, ws_set, ws_own, ws_asg, wo_TN, wo_TNil, wo_TCons, wo_TTup, ws_ap, ws_setIx, ws_for, for_nil, turn_nx, turn_cnt, turn_brk, turn_ret, turn_rof, wm_lc, end_ret, end_nx, end_rof, end_io, ownOf_own, valOf_val, frz_val, frz_own, cOwn_own, peek_val, peek_own, by_val, by_own, canSet_none, canSet_val, canSet_own, lstOf_list,
  List.getElem?_cons_zero, List.getElem?_cons_succ, List.set_cons_zero, List.set_cons_succ, List.length_cons, List.length_nil, wo_ite, wo_bind, ↓reduceIte, and_true, true_and, and_self, Bool.false_eq_true, Bool.not_true, Bool.not_false, decide_eq_true_eq, decide_true, decide_false, oneInt_int, twoInts_int,
  add_ii, add_ll, add_tt, add_ss, sub_ii, mul_ii, mulS_ii, mod_ii, fdiv_ii, neg_i, le_ii, gt_ii, ge_ii, eqT_ii, eqT_ss, eqT_bb, eqT_nn, ltT_ii, ltT_ss, wo_eqD, wo_neD, wo_ltD, wo_inD, wo_ninD, is_n, isnt_n, is_bb, isnt_bb, isN, bOf_b, iOf_i, tru_b, tru_n, tru_i, tru_l, tru_t, seq_l, seq_t, tup_l, tup_t, lst_l, lst_t, len_l, len_t, int_i, int_b, abs_i, max_ii, min_ii, ix_li, ix_ti, cut_l, cut_t, flat_i, flat_b, flat_s, ix0, ix1, ix2, mkTup, mkLst,
  ws_par3, three_c, ws_grp, empty_own, lOwnD_own, wm_lcW, wm_getD, wm_ind, ix3, ix4, ix_m2, ix_m1, ix_p2, ix_p1, wm_newD, ws_setK, wm_get, wm_ixK, wm_sortN, ws_ext, dOwn_own, lOwn_own, lsD_list, step_nx, step_cnt, step_brk, step_ret, step_rof, wm_reve, rev_l, rev_t, wm_opBL, repr_l, sort_l, sum_l, wm_enum, enum_l, enum_t, enumL_nil, wm_dic, wm_kvn, wm_kvc, seq_s, mulT_si, len_s, ord_c, str_i, ty_d, k_lb, k_li, k_ls, k_tb, k_ti, k_ts, k_db, k_di, k_ds, k_lt, k_tl,
  isi_1, tyOk_n, tyOk_b, tyOk_i, tyOk_s, tyOk_l, tyOk_t, ty_n, ty_b, ty_i, ty_s, ty_l, ty_t, k_nb, k_bb, k_ib, k_sb, k_ni, k_bi, k_ii, k_si, k_ns, k_bs, k_is, k_ss, k_ll, k_tt,
  Int.reduceNeg, Int.reducePow, Int.reduceLT, Int.reduceLE, Int.reduceAdd, Int.reduceSub, Int.reduceMul, Int.reduceToNat, Nat.reduceAdd, Nat.reduceLeDiff, Nat.reduceEqDiff, Int.reduceEq, reduceCtorEq, heq, kp, mvD, List.length_map]
          rw [if_pos (by omega)]
          exact ⟨some (.val (mvD m)), some (.val (.list [])), o8, o9, ⟨rfl, rfl, h8, h9⟩, by simp [mvD]⟩
      · have hz : decide (M.length = 0) = false := decide_eq_false z
        have hsz : Acc.length + M.length ≤ 16777216 := by omega
        simp only [backE, wipeE, wo_some, wo_none, wm_c, wm_var, wm_frz, wm_bin, wm_un, wm_tst, wm_tru, wm_truB, wm_chain, wm_and, wm_or, wm_not, wm_andV, wm_orV, wm_notV, wm_ifE, wm_nil, wm_cons, wm_app, wm_noP, wm_part, wm_sl, wm_pk, wm_io, wm_ix, wm_inB, wm_true, wm_seq, wm_rng1, wm_rng2,
  then_nx, then_ret, then_rof, then_brk, then_cnt, ws_next, ws_brk, ws_cnt, ws_seq, ws_if, ws_ret, ws_rof, ws_drop, ws_set, ws_own, ws_asg, wo_TN, wo_TNil, wo_TCons, wo_TTup, ws_ap, ws_setIx, ws_for, for_nil, turn_nx, turn_cnt, turn_brk, turn_ret, turn_rof, wm_lc, end_ret, end_nx, end_rof, end_io, ownOf_own, valOf_val, frz_val, frz_own, cOwn_own, peek_val, peek_own, by_val, by_own, canSet_none, canSet_val, canSet_own, lstOf_list,
  List.getElem?_cons_zero, List.getElem?_cons_succ, List.set_cons_zero, List.set_cons_succ, List.length_cons, List.length_nil, wo_ite, wo_bind, ↓reduceIte, and_true, true_and, and_self, Bool.false_eq_true, Bool.not_true, Bool.not_false, decide_eq_true_eq, decide_true, decide_false, oneInt_int, twoInts_int,
  add_ii, add_ll, add_tt, add_ss, sub_ii, mul_ii, mulS_ii, mod_ii, fdiv_ii, neg_i, le_ii, gt_ii, ge_ii, eqT_ii, eqT_ss, eqT_bb, eqT_nn, ltT_ii, ltT_ss, wo_eqD, wo_neD, wo_ltD, wo_inD, wo_ninD, is_n, isnt_n, is_bb, isnt_bb, isN, bOf_b, iOf_i, tru_b, tru_n, tru_i, tru_l, tru_t, seq_l, seq_t, tup_l, tup_t, lst_l, lst_t, len_l, len_t, int_i, int_b, abs_i, max_ii, min_ii, ix_li, ix_ti, cut_l, cut_t, flat_i, flat_b, flat_s, ix0, ix1, ix2, mkTup, mkLst,
  ws_par3, three_c, ws_grp, empty_own, lOwnD_own, wm_lcW, wm_getD, wm_ind, ix3, ix4, ix_m2, ix_m1, ix_p2, ix_p1, wm_newD, ws_setK, wm_get, wm_ixK, wm_sortN, ws_ext, dOwn_own, lOwn_own, lsD_list, step_nx, step_cnt, step_brk, step_ret, step_rof, wm_reve, rev_l, rev_t, wm_opBL, repr_l, sort_l, sum_l, wm_enum, enum_l, enum_t, enumL_nil, wm_dic, wm_kvn, wm_kvc, seq_s, mulT_si, len_s, ord_c, str_i, ty_d, k_lb, k_li, k_ls, k_tb, k_ti, k_ts, k_db, k_di, k_ds, k_lt, k_tl,
  isi_1, tyOk_n, tyOk_b, tyOk_i, tyOk_s, tyOk_l, tyOk_t, ty_n, ty_b, ty_i, ty_s, ty_l, ty_t, k_nb, k_bb, k_ib, k_sb, k_ni, k_bi, k_ii, k_si, k_ns, k_bs, k_is, k_ss, k_ll, k_tt,
  Int.reduceNeg, Int.reducePow, Int.reduceLT, Int.reduceLE, Int.reduceAdd, Int.reduceSub, Int.reduceMul, Int.reduceToNat, Nat.reduceAdd, Nat.reduceLeDiff, Nat.reduceEqDiff, Int.reduceEq, reduceCtorEq, heq, hz, mvD, hsz, List.length_map]
        exact ⟨some (.val (mvD m)), some (.val (.list (M.map mvD))), o8, o9, ⟨rfl, rfl, h8, h9⟩, by simp [z, mvD]⟩
  · rintro ρ' ⟨o6, o7, o8, o9, ⟨h6, h7, h8, h9⟩, rfl⟩
    have hfold : (A.map (nearM N B)).flatten = nears N A B := rfl
    rw [hfold]
    simp only [backE, wipeE, wo_some, wo_none, wm_c, wm_var, wm_frz, wm_bin, wm_un, wm_tst, wm_tru, wm_truB, wm_chain, wm_and, wm_or, wm_not, wm_andV, wm_orV, wm_notV, wm_ifE, wm_nil, wm_cons, wm_app, wm_noP, wm_part, wm_sl, wm_pk, wm_io, wm_ix, wm_inB, wm_true, wm_seq, wm_rng1, wm_rng2,
  then_nx, then_ret, then_rof, then_brk, then_cnt, ws_next, ws_brk, ws_cnt, ws_seq, ws_if, ws_ret, ws_rof, ws_drop, ws_set, ws_own, ws_asg, wo_TN, wo_TNil, wo_TCons, wo_TTup, ws_ap, ws_setIx, ws_for, for_nil, turn_nx, turn_cnt, turn_brk, turn_ret, turn_rof, wm_lc, end_ret, end_nx, end_rof, end_io, ownOf_own, valOf_val, frz_val, frz_own, cOwn_own, peek_val, peek_own, by_val, by_own, canSet_none, canSet_val, canSet_own, lstOf_list,
  List.getElem?_cons_zero, List.getElem?_cons_succ, List.set_cons_zero, List.set_cons_succ, List.length_cons, List.length_nil, wo_ite, wo_bind, ↓reduceIte, and_true, true_and, and_self, Bool.false_eq_true, Bool.not_true, Bool.not_false, decide_eq_true_eq, decide_true, decide_false, oneInt_int, twoInts_int,
  add_ii, add_ll, add_tt, add_ss, sub_ii, mul_ii, mulS_ii, mod_ii, fdiv_ii, neg_i, le_ii, gt_ii, ge_ii, eqT_ii, eqT_ss, eqT_bb, eqT_nn, ltT_ii, ltT_ss, wo_eqD, wo_neD, wo_ltD, wo_inD, wo_ninD, is_n, isnt_n, is_bb, isnt_bb, isN, bOf_b, iOf_i, tru_b, tru_n, tru_i, tru_l, tru_t, seq_l, seq_t, tup_l, tup_t, lst_l, lst_t, len_l, len_t, int_i, int_b, abs_i, max_ii, min_ii, ix_li, ix_ti, cut_l, cut_t, flat_i, flat_b, flat_s, ix0, ix1, ix2, mkTup, mkLst,
  ws_par3, three_c, ws_grp, empty_own, lOwnD_own, wm_lcW, wm_getD, wm_ind, ix3, ix4, ix_m2, ix_m1, ix_p2, ix_p1, wm_newD, ws_setK, wm_get, wm_ixK, wm_sortN, ws_ext, dOwn_own, lOwn_own, lsD_list, step_nx, step_cnt, step_brk, step_ret, step_rof, wm_reve, rev_l, rev_t, wm_opBL, repr_l, sort_l, sum_l, wm_enum, enum_l, enum_t, enumL_nil, wm_dic, wm_kvn, wm_kvc, seq_s, mulT_si, len_s, ord_c, str_i, ty_d, k_lb, k_li, k_ls, k_tb, k_ti, k_ts, k_db, k_di, k_ds, k_lt, k_tl,
  isi_1, tyOk_n, tyOk_b, tyOk_i, tyOk_s, tyOk_l, tyOk_t, ty_n, ty_b, ty_i, ty_s, ty_l, ty_t, k_nb, k_bb, k_ib, k_sb, k_ni, k_bi, k_ii, k_si, k_ns, k_bs, k_is, k_ss, k_ll, k_tt,
  Int.reduceNeg, Int.reducePow, Int.reduceLT, Int.reduceLE, Int.reduceAdd, Int.reduceSub, Int.reduceMul, Int.reduceToNat, Nat.reduceAdd, Nat.reduceLeDiff, Nat.reduceEqDiff, Int.reduceEq, reduceCtorEq, hf]

/-! what the laws of operators draw -/
theorem wo_three {n : Int} {nl : List Str} {Q : D × D → Prop} (h3 : nl.length = 3) (q : ∀ (ps : List (Str × Str)) n', 1 ≤ ps.length → ps.length ≤ 3 → (∀ p ∈ ps, kd p.2) → ps.map (·.1) = nl.take ps.length → Q (.tuple (ps.map fdD), .list [.int n'])) : Wo (f__law_three (.list [.int n]) [.list (nl.map PyData.str)]) Q := by
  unfold f__law_three
  rw [wo_runIO]
  show Ws g__law_three [some (.own true (.list [.int n])), some (.val (.list (nl.map PyData.str))), none, none] _
  unfold g__law_three
  simp only [backE, wipeE, wo_some, wo_none, wm_c, wm_var, wm_frz, wm_bin, wm_un, wm_tst, wm_tru, wm_truB, wm_chain, wm_and, wm_or, wm_not, wm_andV, wm_orV, wm_notV, wm_ifE, wm_nil, wm_cons, wm_app, wm_noP, wm_part, wm_sl, wm_pk, wm_io, wm_ix, wm_inB, wm_true, wm_seq, wm_rng1, wm_rng2,
  then_nx, then_ret, then_rof, then_brk, then_cnt, ws_next, ws_brk, ws_cnt, ws_seq, ws_if, ws_ret, ws_rof, ws_drop, ws_set, ws_own, ws_asg, wo_TN, wo_TNil, wo_TCons, wo_TTup, ws_ap, ws_setIx, ws_for, for_nil, turn_nx, turn_cnt, turn_brk, turn_ret, turn_rof, wm_lc, end_ret, end_nx, end_rof, end_io, ownOf_own, valOf_val, frz_val, frz_own, cOwn_own, peek_val, peek_own, by_val, by_own, canSet_none, canSet_val, canSet_own, lstOf_list,
  List.getElem?_cons_zero, List.getElem?_cons_succ, List.set_cons_zero, List.set_cons_succ, List.length_cons, List.length_nil, wo_ite, wo_bind, ↓reduceIte, and_true, true_and, and_self, Bool.false_eq_true, Bool.not_true, Bool.not_false, decide_eq_true_eq, decide_true, decide_false, oneInt_int, twoInts_int,
  add_ii, add_ll, add_tt, add_ss, sub_ii, mul_ii, mulS_ii, mod_ii, fdiv_ii, neg_i, le_ii, gt_ii, ge_ii, eqT_ii, eqT_ss, eqT_bb, eqT_nn, ltT_ii, ltT_ss, wo_eqD, wo_neD, wo_ltD, wo_inD, wo_ninD, is_n, isnt_n, is_bb, isnt_bb, isN, bOf_b, iOf_i, tru_b, tru_n, tru_i, tru_l, tru_t, seq_l, seq_t, tup_l, tup_t, lst_l, lst_t, len_l, len_t, int_i, int_b, abs_i, max_ii, min_ii, ix_li, ix_ti, cut_l, cut_t, flat_i, flat_b, flat_s, ix0, ix1, ix2, mkTup, mkLst,
  ws_par3, three_c, ws_grp, empty_own, lOwnD_own, wm_lcW, wm_getD, wm_ind, ix3, ix4, ix_m2, ix_m1, ix_p2, ix_p1, wm_newD, ws_setK, wm_get, wm_ixK, wm_sortN, ws_ext, dOwn_own, lOwn_own, lsD_list, step_nx, step_cnt, step_brk, step_ret, step_rof, wm_reve, rev_l, rev_t, wm_opBL, repr_l, sort_l, sum_l, wm_enum, enum_l, enum_t, enumL_nil, wm_dic, wm_kvn, wm_kvc, seq_s, mulT_si, len_s, ord_c, str_i, ty_d, k_lb, k_li, k_ls, k_tb, k_ti, k_ts, k_db, k_di, k_ds, k_lt, k_tl,
  isi_1, tyOk_n, tyOk_b, tyOk_i, tyOk_s, tyOk_l, tyOk_t, ty_n, ty_b, ty_i, ty_s, ty_l, ty_t, k_nb, k_bb, k_ib, k_sb, k_ni, k_bi, k_ii, k_si, k_ns, k_bs, k_is, k_ss, k_ll, k_tt,
  Int.reduceNeg, Int.reducePow, Int.reduceLT, Int.reduceLE, Int.reduceAdd, Int.reduceSub, Int.reduceMul, Int.reduceToNat, Nat.reduceAdd, Nat.reduceLeDiff, Nat.reduceEqDiff, Int.reduceEq, reduceCtorEq, sp_digit]
  obtain ⟨j, hj, hj3⟩ := modN n (show (0 : Int) < 3 by decide)
  rw [hj, cut_take1, ← List.map_take]
  refine ⟨⟨by rw [List.length_map, List.length_take]; omega, rfl⟩, ?_⟩
  refine lc_inv (fun p a ρ => ∃ (n' : Int) (qs : List (Str × Str)), ρ = [some (.own true (.list [.int n'])), some (.val (.list (nl.map PyData.str))), some (.val (.list [.str "flag", .str "whole", .str "text", .str "whole"])), none] ∧ p = qs.map (fun q : Str × Str => PyData.str q.1) ∧ a = qs.map fdD ∧ ∀ q ∈ qs, kd q.2) _ [] [] _ ⟨_, [], rfl, rfl, rfl, by simp⟩ ?_ ?_
  · rintro p d r a ρ e ⟨n', qs, rfl, rfl, rfl, hqs⟩
    obtain ⟨x, rfl⟩ : ∃ x, d = .str x := by
      have h1 : d ∈ [] ++ (nl.take (1 + j)).map PyData.str := by rw [e]; simp
      rw [List.nil_append] at h1
      obtain ⟨x, _, rfl⟩ := List.mem_map.mp h1
      exact ⟨x, rfl⟩
    simp only [backE, wipeE, wo_some, wo_none, wm_c, wm_var, wm_frz, wm_bin, wm_un, wm_tst, wm_tru, wm_truB, wm_chain, wm_and, wm_or, wm_not, wm_andV, wm_orV, wm_notV, wm_ifE, wm_nil, wm_cons, wm_app, wm_noP, wm_part, wm_sl, wm_pk, wm_io, wm_ix, wm_inB, wm_true, wm_seq, wm_rng1, wm_rng2,
  then_nx, then_ret, then_rof, then_brk, then_cnt, ws_next, ws_brk, ws_cnt, ws_seq, ws_if, ws_ret, ws_rof, ws_drop, ws_set, ws_own, ws_asg, wo_TN, wo_TNil, wo_TCons, wo_TTup, ws_ap, ws_setIx, ws_for, for_nil, turn_nx, turn_cnt, turn_brk, turn_ret, turn_rof, wm_lc, end_ret, end_nx, end_rof, end_io, ownOf_own, valOf_val, frz_val, frz_own, cOwn_own, peek_val, peek_own, by_val, by_own, canSet_none, canSet_val, canSet_own, lstOf_list,
  List.getElem?_cons_zero, List.getElem?_cons_succ, List.set_cons_zero, List.set_cons_succ, List.length_cons, List.length_nil, wo_ite, wo_bind, ↓reduceIte, and_true, true_and, and_self, Bool.false_eq_true, Bool.not_true, Bool.not_false, decide_eq_true_eq, decide_true, decide_false, oneInt_int, twoInts_int,
  add_ii, add_ll, add_tt, add_ss, sub_ii, mul_ii, mulS_ii, mod_ii, fdiv_ii, neg_i, le_ii, gt_ii, ge_ii, eqT_ii, eqT_ss, eqT_bb, eqT_nn, ltT_ii, ltT_ss, wo_eqD, wo_neD, wo_ltD, wo_inD, wo_ninD, is_n, isnt_n, is_bb, isnt_bb, isN, bOf_b, iOf_i, tru_b, tru_n, tru_i, tru_l, tru_t, seq_l, seq_t, tup_l, tup_t, lst_l, lst_t, len_l, len_t, int_i, int_b, abs_i, max_ii, min_ii, ix_li, ix_ti, cut_l, cut_t, flat_i, flat_b, flat_s, ix0, ix1, ix2, mkTup, mkLst,
  ws_par3, three_c, ws_grp, empty_own, lOwnD_own, wm_lcW, wm_getD, wm_ind, ix3, ix4, ix_m2, ix_m1, ix_p2, ix_p1, wm_newD, ws_setK, wm_get, wm_ixK, wm_sortN, ws_ext, dOwn_own, lOwn_own, lsD_list, step_nx, step_cnt, step_brk, step_ret, step_rof, wm_reve, rev_l, rev_t, wm_opBL, repr_l, sort_l, sum_l, wm_enum, enum_l, enum_t, enumL_nil, wm_dic, wm_kvn, wm_kvc, seq_s, mulT_si, len_s, ord_c, str_i, ty_d, k_lb, k_li, k_ls, k_tb, k_ti, k_ts, k_db, k_di, k_ds, k_lt, k_tl,
  isi_1, tyOk_n, tyOk_b, tyOk_i, tyOk_s, tyOk_l, tyOk_t, ty_n, ty_b, ty_i, ty_s, ty_l, ty_t, k_nb, k_bb, k_ib, k_sb, k_ni, k_bi, k_ii, k_si, k_ns, k_bs, k_is, k_ss, k_ll, k_tt,
  Int.reduceNeg, Int.reducePow, Int.reduceLT, Int.reduceLE, Int.reduceAdd, Int.reduceSub, Int.reduceMul, Int.reduceToNat, Nat.reduceAdd, Nat.reduceLeDiff, Nat.reduceEqDiff, Int.reduceEq, reduceCtorEq, sp_digit]
    refine wo_ix (by omega) (by simp only [List.length_cons, List.length_nil]; omega) fun y hy => ?_
    obtain ⟨k, rfl, hkd⟩ : ∃ k : Str, y = .str k ∧ kd k := by
      simp only [List.mem_cons, List.not_mem_nil, or_false] at hy
      rcases hy with rfl | rfl | rfl | rfl
      · exact ⟨_, rfl, .inl rfl⟩
      · exact ⟨_, rfl, .inr (.inl rfl)⟩
      · exact ⟨_, rfl, .inr (.inr rfl)⟩
      · exact ⟨_, rfl, .inr (.inl rfl)⟩
    refine ⟨_, qs ++ [(x, k)], rfl, by simp, by simp [fdD], fun q hq => ?_⟩
    rcases List.mem_append.mp hq with h | h
    · exact hqs q h
    · rw [List.mem_singleton.mp h]
      exact hkd
  · rintro fs ρ' ⟨n', ps, rfl, hpn, hfs, hkd⟩
    rw [List.nil_append] at hpn hfs
    subst hfs
    have hpl : ps.length = 1 + j := by
      have := congrArg List.length hpn
      rw [List.length_map, List.length_map, List.length_take] at this
      omega
    simp only [backE, wipeE, wo_some, wo_none, wm_c, wm_var, wm_frz, wm_bin, wm_un, wm_tst, wm_tru, wm_truB, wm_chain, wm_and, wm_or, wm_not, wm_andV, wm_orV, wm_notV, wm_ifE, wm_nil, wm_cons, wm_app, wm_noP, wm_part, wm_sl, wm_pk, wm_io, wm_ix, wm_inB, wm_true, wm_seq, wm_rng1, wm_rng2,
  then_nx, then_ret, then_rof, then_brk, then_cnt, ws_next, ws_brk, ws_cnt, ws_seq, ws_if, ws_ret, ws_rof, ws_drop, ws_set, ws_own, ws_asg, wo_TN, wo_TNil, wo_TCons, wo_TTup, ws_ap, ws_setIx, ws_for, for_nil, turn_nx, turn_cnt, turn_brk, turn_ret, turn_rof, wm_lc, end_ret, end_nx, end_rof, end_io, ownOf_own, valOf_val, frz_val, frz_own, cOwn_own, peek_val, peek_own, by_val, by_own, canSet_none, canSet_val, canSet_own, lstOf_list,
  List.getElem?_cons_zero, List.getElem?_cons_succ, List.set_cons_zero, List.set_cons_succ, List.length_cons, List.length_nil, wo_ite, wo_bind, ↓reduceIte, and_true, true_and, and_self, Bool.false_eq_true, Bool.not_true, Bool.not_false, decide_eq_true_eq, decide_true, decide_false, oneInt_int, twoInts_int,
  add_ii, add_ll, add_tt, add_ss, sub_ii, mul_ii, mulS_ii, mod_ii, fdiv_ii, neg_i, le_ii, gt_ii, ge_ii, eqT_ii, eqT_ss, eqT_bb, eqT_nn, ltT_ii, ltT_ss, wo_eqD, wo_neD, wo_ltD, wo_inD, wo_ninD, is_n, isnt_n, is_bb, isnt_bb, isN, bOf_b, iOf_i, tru_b, tru_n, tru_i, tru_l, tru_t, seq_l, seq_t, tup_l, tup_t, lst_l, lst_t, len_l, len_t, int_i, int_b, abs_i, max_ii, min_ii, ix_li, ix_ti, cut_l, cut_t, flat_i, flat_b, flat_s, ix0, ix1, ix2, mkTup, mkLst,
  ws_par3, three_c, ws_grp, empty_own, lOwnD_own, wm_lcW, wm_getD, wm_ind, ix3, ix4, ix_m2, ix_m1, ix_p2, ix_p1, wm_newD, ws_setK, wm_get, wm_ixK, wm_sortN, ws_ext, dOwn_own, lOwn_own, lsD_list, step_nx, step_cnt, step_brk, step_ret, step_rof, wm_reve, rev_l, rev_t, wm_opBL, repr_l, sort_l, sum_l, wm_enum, enum_l, enum_t, enumL_nil, wm_dic, wm_kvn, wm_kvc, seq_s, mulT_si, len_s, ord_c, str_i, ty_d, k_lb, k_li, k_ls, k_tb, k_ti, k_ts, k_db, k_di, k_ds, k_lt, k_tl,
  isi_1, tyOk_n, tyOk_b, tyOk_i, tyOk_s, tyOk_l, tyOk_t, ty_n, ty_b, ty_i, ty_s, ty_l, ty_t, k_nb, k_bb, k_ib, k_sb, k_ni, k_bi, k_ii, k_si, k_ns, k_bs, k_is, k_ss, k_ll, k_tt,
  Int.reduceNeg, Int.reducePow, Int.reduceLT, Int.reduceLE, Int.reduceAdd, Int.reduceSub, Int.reduceMul, Int.reduceToNat, Nat.reduceAdd, Nat.reduceLeDiff, Nat.reduceEqDiff, Int.reduceEq, reduceCtorEq, backE]
    refine q ps n' (by omega) (by omega) hkd ?_
    rw [hpl]
    have e2 : (ps.map (·.1)).map PyData.str = (nl.take (1 + j)).map PyData.str := by
      rw [List.map_map]
      exact hpn.symm
    exact (List.map_inj_right (fun x y h => by injection h)).mp e2
def goodV (ps : List (Str × Str)) (m : Mv) : Prop := okK m.1 ∧ (0 ≤ m.1.1 ∧ m.1.1 ≤ 11) ∧ fitsB m.1.2 ps = true ∧ (∀ v ∈ m.1.2, isV v = true) ∧ 1 ≤ m.2 ∧ m.2 ≤ 2
theorem goodV_ok {ps : List (Str × Str)} {ms : List Mv} (h : ∀ m ∈ ms, goodV ps m) : okL ms := fun m hm => (h m hm).1
theorem wo_events {n many : Int} {ps : List (Str × Str)} {Q : D × D → Prop} (hk : ∀ p ∈ ps, kd p.2) (hl : ps.length ≤ 1000) (hm : 0 ≤ many ∧ many ≤ 1000) (q : ∀ (ms : List Mv) n', ms.length = many.toNat → (∀ m ∈ ms, goodV ps m) → Q (.list ((flw ms).map mvD), .list [.int n'])) : Wo (f__law_events (.list [.int n]) [.tuple (ps.map fdD), .int many]) Q := by
  unfold f__law_events
  rw [wo_runIO]
  show Ws g__law_events [some (.own true (.list [.int n])), some (.val (.tuple (ps.map fdD))), some (.val (.int many)), none, none] _
  unfold g__law_events
  simp only [backE, wipeE, wo_some, wo_none, wm_c, wm_var, wm_frz, wm_bin, wm_un, wm_tst, wm_tru, wm_truB, wm_chain, wm_and, wm_or, wm_not, wm_andV, wm_orV, wm_notV, wm_ifE, wm_nil, wm_cons, wm_app, wm_noP, wm_part, wm_sl, wm_pk, wm_io, wm_ix, wm_inB, wm_true, wm_seq, wm_rng1, wm_rng2,
  then_nx, then_ret, then_rof, then_brk, then_cnt, ws_next, ws_brk, ws_cnt, ws_seq, ws_if, ws_ret, ws_rof, ws_drop, ws_set, ws_own, ws_asg, wo_TN, wo_TNil, wo_TCons, wo_TTup, ws_ap, ws_setIx, ws_for, for_nil, turn_nx, turn_cnt, turn_brk, turn_ret, turn_rof, wm_lc, end_ret, end_nx, end_rof, end_io, ownOf_own, valOf_val, frz_val, frz_own, cOwn_own, peek_val, peek_own, by_val, by_own, canSet_none, canSet_val, canSet_own, lstOf_list,
  List.getElem?_cons_zero, List.getElem?_cons_succ, List.set_cons_zero, List.set_cons_succ, List.length_cons, List.length_nil, wo_ite, wo_bind, ↓reduceIte, and_true, true_and, and_self, Bool.false_eq_true, Bool.not_true, Bool.not_false, decide_eq_true_eq, decide_true, decide_false, oneInt_int, twoInts_int,
  add_ii, add_ll, add_tt, add_ss, sub_ii, mul_ii, mulS_ii, mod_ii, fdiv_ii, neg_i, le_ii, gt_ii, ge_ii, eqT_ii, eqT_ss, eqT_bb, eqT_nn, ltT_ii, ltT_ss, wo_eqD, wo_neD, wo_ltD, wo_inD, wo_ninD, is_n, isnt_n, is_bb, isnt_bb, isN, bOf_b, iOf_i, tru_b, tru_n, tru_i, tru_l, tru_t, seq_l, seq_t, tup_l, tup_t, lst_l, lst_t, len_l, len_t, int_i, int_b, abs_i, max_ii, min_ii, ix_li, ix_ti, cut_l, cut_t, flat_i, flat_b, flat_s, ix0, ix1, ix2, mkTup, mkLst,
  ws_par3, three_c, ws_grp, empty_own, lOwnD_own, wm_lcW, wm_getD, wm_ind, ix3, ix4, ix_m2, ix_m1, ix_p2, ix_p1, wm_newD, ws_setK, wm_get, wm_ixK, wm_sortN, ws_ext, dOwn_own, lOwn_own, lsD_list, step_nx, step_cnt, step_brk, step_ret, step_rof, wm_reve, rev_l, rev_t, wm_opBL, repr_l, sort_l, sum_l, wm_enum, enum_l, enum_t, enumL_nil, wm_dic, wm_kvn, wm_kvc, seq_s, mulT_si, len_s, ord_c, str_i, ty_d, k_lb, k_li, k_ls, k_tb, k_ti, k_ts, k_db, k_di, k_ds, k_lt, k_tl,
  isi_1, tyOk_n, tyOk_b, tyOk_i, tyOk_s, tyOk_l, tyOk_t, ty_n, ty_b, ty_i, ty_s, ty_l, ty_t, k_nb, k_bb, k_ib, k_sb, k_ni, k_bi, k_ii, k_si, k_ns, k_bs, k_is, k_ss, k_ll, k_tt,
  Int.reduceNeg, Int.reducePow, Int.reduceLT, Int.reduceLE, Int.reduceAdd, Int.reduceSub, Int.reduceMul, Int.reduceToNat, Nat.reduceAdd, Nat.reduceLeDiff, Nat.reduceEqDiff, Int.reduceEq, reduceCtorEq]
  rw [if_pos (by unfold small62; exact decide_eq_true ⟨by omega, by omega⟩), rng_map]
  refine ws_forA (fun i : Nat => PyData.int i) (fun p ρ => ∃ (n' : Int) (ms : List Mv) (o4 : Option Cell), canSet (some o4) = some () ∧ (ms.length = p.length ∧ ∀ m ∈ ms, goodV ps m) ∧ ρ = [some (.own true (.list [.int n'])), some (.val (.tuple (ps.map fdD))), some (.val (.int many)), some (.own false (.list (ms.map mvD))), o4]) ⟨n, [], none, rfl, ⟨rfl, by simp⟩, rfl⟩ ?_ ?_
  · rintro p i r ρ e ⟨n', ms, o4, h4, ⟨hml, hms⟩, rfl⟩
    obtain ⟨e1, e2⟩ := rng_split e
    simp only [backE, wipeE, wo_some, wo_none, wm_c, wm_var, wm_frz, wm_bin, wm_un, wm_tst, wm_tru, wm_truB, wm_chain, wm_and, wm_or, wm_not, wm_andV, wm_orV, wm_notV, wm_ifE, wm_nil, wm_cons, wm_app, wm_noP, wm_part, wm_sl, wm_pk, wm_io, wm_ix, wm_inB, wm_true, wm_seq, wm_rng1, wm_rng2,
  then_nx, then_ret, then_rof, then_brk, then_cnt, ws_next, ws_brk, ws_cnt, ws_seq, ws_if, ws_ret, ws_rof, ws_drop, ws_set, ws_own, ws_asg, wo_TN, wo_TNil, wo_TCons, wo_TTup, ws_ap, ws_setIx, ws_for, for_nil, turn_nx, turn_cnt, turn_brk, turn_ret, turn_rof, wm_lc, end_ret, end_nx, end_rof, end_io, ownOf_own, valOf_val, frz_val, frz_own, cOwn_own, peek_val, peek_own, by_val, by_own, canSet_none, canSet_val, canSet_own, lstOf_list,
  List.getElem?_cons_zero, List.getElem?_cons_succ, List.set_cons_zero, List.set_cons_succ, List.length_cons, List.length_nil, wo_ite, wo_bind, ↓reduceIte, and_true, true_and, and_self, Bool.false_eq_true, Bool.not_true, Bool.not_false, decide_eq_true_eq, decide_true, decide_false, oneInt_int, twoInts_int,
  add_ii, add_ll, add_tt, add_ss, sub_ii, mul_ii, mulS_ii, mod_ii, fdiv_ii, neg_i, le_ii, gt_ii, ge_ii, eqT_ii, eqT_ss, eqT_bb, eqT_nn, ltT_ii, ltT_ss, wo_eqD, wo_neD, wo_ltD, wo_inD, wo_ninD, is_n, isnt_n, is_bb, isnt_bb, isN, bOf_b, iOf_i, tru_b, tru_n, tru_i, tru_l, tru_t, seq_l, seq_t, tup_l, tup_t, lst_l, lst_t, len_l, len_t, int_i, int_b, abs_i, max_ii, min_ii, ix_li, ix_ti, cut_l, cut_t, flat_i, flat_b, flat_s, ix0, ix1, ix2, mkTup, mkLst,
  ws_par3, three_c, ws_grp, empty_own, lOwnD_own, wm_lcW, wm_getD, wm_ind, ix3, ix4, ix_m2, ix_m1, ix_p2, ix_p1, wm_newD, ws_setK, wm_get, wm_ixK, wm_sortN, ws_ext, dOwn_own, lOwn_own, lsD_list, step_nx, step_cnt, step_brk, step_ret, step_rof, wm_reve, rev_l, rev_t, wm_opBL, repr_l, sort_l, sum_l, wm_enum, enum_l, enum_t, enumL_nil, wm_dic, wm_kvn, wm_kvc, seq_s, mulT_si, len_s, ord_c, str_i, ty_d, k_lb, k_li, k_ls, k_tb, k_ti, k_ts, k_db, k_di, k_ds, k_lt, k_tl,
  isi_1, tyOk_n, tyOk_b, tyOk_i, tyOk_s, tyOk_l, tyOk_t, ty_n, ty_b, ty_i, ty_s, ty_l, ty_t, k_nb, k_bb, k_ib, k_sb, k_ni, k_bi, k_ii, k_si, k_ns, k_bs, k_is, k_ss, k_ll, k_tt,
  Int.reduceNeg, Int.reducePow, Int.reduceLT, Int.reduceLE, Int.reduceAdd, Int.reduceSub, Int.reduceMul, Int.reduceToNat, Nat.reduceAdd, Nat.reduceLeDiff, Nat.reduceEqDiff, Int.reduceEq, reduceCtorEq, h4, sp_digit]
    refine wo_rowT (ps := ps) (fd := .tuple (ps.map fdD)) rfl hk hl fun vs n3 hfit hgv hvv => ?_
    simp only [backE, wipeE, wo_some, wo_none, wm_c, wm_var, wm_frz, wm_bin, wm_un, wm_tst, wm_tru, wm_truB, wm_chain, wm_and, wm_or, wm_not, wm_andV, wm_orV, wm_notV, wm_ifE, wm_nil, wm_cons, wm_app, wm_noP, wm_part, wm_sl, wm_pk, wm_io, wm_ix, wm_inB, wm_true, wm_seq, wm_rng1, wm_rng2,
  then_nx, then_ret, then_rof, then_brk, then_cnt, ws_next, ws_brk, ws_cnt, ws_seq, ws_if, ws_ret, ws_rof, ws_drop, ws_set, ws_own, ws_asg, wo_TN, wo_TNil, wo_TCons, wo_TTup, ws_ap, ws_setIx, ws_for, for_nil, turn_nx, turn_cnt, turn_brk, turn_ret, turn_rof, wm_lc, end_ret, end_nx, end_rof, end_io, ownOf_own, valOf_val, frz_val, frz_own, cOwn_own, peek_val, peek_own, by_val, by_own, canSet_none, canSet_val, canSet_own, lstOf_list,
  List.getElem?_cons_zero, List.getElem?_cons_succ, List.set_cons_zero, List.set_cons_succ, List.length_cons, List.length_nil, wo_ite, wo_bind, ↓reduceIte, and_true, true_and, and_self, Bool.false_eq_true, Bool.not_true, Bool.not_false, decide_eq_true_eq, decide_true, decide_false, oneInt_int, twoInts_int,
  add_ii, add_ll, add_tt, add_ss, sub_ii, mul_ii, mulS_ii, mod_ii, fdiv_ii, neg_i, le_ii, gt_ii, ge_ii, eqT_ii, eqT_ss, eqT_bb, eqT_nn, ltT_ii, ltT_ss, wo_eqD, wo_neD, wo_ltD, wo_inD, wo_ninD, is_n, isnt_n, is_bb, isnt_bb, isN, bOf_b, iOf_i, tru_b, tru_n, tru_i, tru_l, tru_t, seq_l, seq_t, tup_l, tup_t, lst_l, lst_t, len_l, len_t, int_i, int_b, abs_i, max_ii, min_ii, ix_li, ix_ti, cut_l, cut_t, flat_i, flat_b, flat_s, ix0, ix1, ix2, mkTup, mkLst,
  ws_par3, three_c, ws_grp, empty_own, lOwnD_own, wm_lcW, wm_getD, wm_ind, ix3, ix4, ix_m2, ix_m1, ix_p2, ix_p1, wm_newD, ws_setK, wm_get, wm_ixK, wm_sortN, ws_ext, dOwn_own, lOwn_own, lsD_list, step_nx, step_cnt, step_brk, step_ret, step_rof, wm_reve, rev_l, rev_t, wm_opBL, repr_l, sort_l, sum_l, wm_enum, enum_l, enum_t, enumL_nil, wm_dic, wm_kvn, wm_kvc, seq_s, mulT_si, len_s, ord_c, str_i, ty_d, k_lb, k_li, k_ls, k_tb, k_ti, k_ts, k_db, k_di, k_ds, k_lt, k_tl,
  isi_1, tyOk_n, tyOk_b, tyOk_i, tyOk_s, tyOk_l, tyOk_t, ty_n, ty_b, ty_i, ty_s, ty_l, ty_t, k_nb, k_bb, k_ib, k_sb, k_ni, k_bi, k_ii, k_si, k_ns, k_bs, k_is, k_ss, k_ll, k_tt,
  Int.reduceNeg, Int.reducePow, Int.reduceLT, Int.reduceLE, Int.reduceAdd, Int.reduceSub, Int.reduceMul, Int.reduceToNat, Nat.reduceAdd, Nat.reduceLeDiff, Nat.reduceEqDiff, Int.reduceEq, reduceCtorEq, sp_digit]
    refine wo_ix (by omega) (by simp only [List.length_cons, List.length_nil]; omega) fun y hy => ?_
    obtain ⟨w, rfl, hw⟩ : ∃ w : Int, y = .int w ∧ (1 ≤ w ∧ w ≤ 2) := by
      simp only [List.mem_cons, List.not_mem_nil, or_false] at hy
      rcases hy with rfl | rfl | rfl <;> exact ⟨_, rfl, by decide, by decide⟩
    simp only [backE, wipeE, wo_some, wo_none, wm_c, wm_var, wm_frz, wm_bin, wm_un, wm_tst, wm_tru, wm_truB, wm_chain, wm_and, wm_or, wm_not, wm_andV, wm_orV, wm_notV, wm_ifE, wm_nil, wm_cons, wm_app, wm_noP, wm_part, wm_sl, wm_pk, wm_io, wm_ix, wm_inB, wm_true, wm_seq, wm_rng1, wm_rng2,
  then_nx, then_ret, then_rof, then_brk, then_cnt, ws_next, ws_brk, ws_cnt, ws_seq, ws_if, ws_ret, ws_rof, ws_drop, ws_set, ws_own, ws_asg, wo_TN, wo_TNil, wo_TCons, wo_TTup, ws_ap, ws_setIx, ws_for, for_nil, turn_nx, turn_cnt, turn_brk, turn_ret, turn_rof, wm_lc, end_ret, end_nx, end_rof, end_io, ownOf_own, valOf_val, frz_val, frz_own, cOwn_own, peek_val, peek_own, by_val, by_own, canSet_none, canSet_val, canSet_own, lstOf_list,
  List.getElem?_cons_zero, List.getElem?_cons_succ, List.set_cons_zero, List.set_cons_succ, List.length_cons, List.length_nil, wo_ite, wo_bind, ↓reduceIte, and_true, true_and, and_self, Bool.false_eq_true, Bool.not_true, Bool.not_false, decide_eq_true_eq, decide_true, decide_false, oneInt_int, twoInts_int,
  add_ii, add_ll, add_tt, add_ss, sub_ii, mul_ii, mulS_ii, mod_ii, fdiv_ii, neg_i, le_ii, gt_ii, ge_ii, eqT_ii, eqT_ss, eqT_bb, eqT_nn, ltT_ii, ltT_ss, wo_eqD, wo_neD, wo_ltD, wo_inD, wo_ninD, is_n, isnt_n, is_bb, isnt_bb, isN, bOf_b, iOf_i, tru_b, tru_n, tru_i, tru_l, tru_t, seq_l, seq_t, tup_l, tup_t, lst_l, lst_t, len_l, len_t, int_i, int_b, abs_i, max_ii, min_ii, ix_li, ix_ti, cut_l, cut_t, flat_i, flat_b, flat_s, ix0, ix1, ix2, mkTup, mkLst,
  ws_par3, three_c, ws_grp, empty_own, lOwnD_own, wm_lcW, wm_getD, wm_ind, ix3, ix4, ix_m2, ix_m1, ix_p2, ix_p1, wm_newD, ws_setK, wm_get, wm_ixK, wm_sortN, ws_ext, dOwn_own, lOwn_own, lsD_list, step_nx, step_cnt, step_brk, step_ret, step_rof, wm_reve, rev_l, rev_t, wm_opBL, repr_l, sort_l, sum_l, wm_enum, enum_l, enum_t, enumL_nil, wm_dic, wm_kvn, wm_kvc, seq_s, mulT_si, len_s, ord_c, str_i, ty_d, k_lb, k_li, k_ls, k_tb, k_ti, k_ts, k_db, k_di, k_ds, k_lt, k_tl,
  isi_1, tyOk_n, tyOk_b, tyOk_i, tyOk_s, tyOk_l, tyOk_t, ty_n, ty_b, ty_i, ty_s, ty_l, ty_t, k_nb, k_bb, k_ib, k_sb, k_ni, k_bi, k_ii, k_si, k_ns, k_bs, k_is, k_ss, k_ll, k_tt,
  Int.reduceNeg, Int.reducePow, Int.reduceLT, Int.reduceLE, Int.reduceAdd, Int.reduceSub, Int.reduceMul, Int.reduceToNat, Nat.reduceAdd, Nat.reduceLeDiff, Nat.reduceEqDiff, Int.reduceEq, reduceCtorEq, List.length_map]
    refine ⟨by omega, _, ms ++ [((n' % 12, vs), w)], some (.val (.int i)), rfl, ⟨by simp [hml], fun m hm => ?_⟩, by rw [List.map_append]; rfl⟩
    rcases List.mem_append.mp hm with h | h
    · exact hms m h
    · rw [List.mem_singleton.mp h]
      have h0 := Int.emod_nonneg n' (show (12 : Int) ≠ 0 by decide)
      have h1 := Int.emod_lt_of_pos n' (show (0 : Int) < 12 by decide)
      exact ⟨⟨hgv, by rw [fits_len hfit]; exact hl⟩, ⟨h0, by show n' % 12 ≤ 11; omega⟩, hfit, hvv, hw.1, hw.2⟩
  · rintro ρ' ⟨n', ms, o4, h4, ⟨hml, hms⟩, rfl⟩
    have hml2 : ms.length = many.toNat := by rw [hml, List.length_range]
    simp only [backE, wipeE, wo_some, wo_none, wm_c, wm_var, wm_frz, wm_bin, wm_un, wm_tst, wm_tru, wm_truB, wm_chain, wm_and, wm_or, wm_not, wm_andV, wm_orV, wm_notV, wm_ifE, wm_nil, wm_cons, wm_app, wm_noP, wm_part, wm_sl, wm_pk, wm_io, wm_ix, wm_inB, wm_true, wm_seq, wm_rng1, wm_rng2,
  then_nx, then_ret, then_rof, then_brk, then_cnt, ws_next, ws_brk, ws_cnt, ws_seq, ws_if, ws_ret, ws_rof, ws_drop, ws_set, ws_own, ws_asg, wo_TN, wo_TNil, wo_TCons, wo_TTup, ws_ap, ws_setIx, ws_for, for_nil, turn_nx, turn_cnt, turn_brk, turn_ret, turn_rof, wm_lc, end_ret, end_nx, end_rof, end_io, ownOf_own, valOf_val, frz_val, frz_own, cOwn_own, peek_val, peek_own, by_val, by_own, canSet_none, canSet_val, canSet_own, lstOf_list,
  List.getElem?_cons_zero, List.getElem?_cons_succ, List.set_cons_zero, List.set_cons_succ, List.length_cons, List.length_nil, wo_ite, wo_bind, ↓reduceIte, and_true, true_and, and_self, Bool.false_eq_true, Bool.not_true, Bool.not_false, decide_eq_true_eq, decide_true, decide_false, oneInt_int, twoInts_int,
  add_ii, add_ll, add_tt, add_ss, sub_ii, mul_ii, mulS_ii, mod_ii, fdiv_ii, neg_i, le_ii, gt_ii, ge_ii, eqT_ii, eqT_ss, eqT_bb, eqT_nn, ltT_ii, ltT_ss, wo_eqD, wo_neD, wo_ltD, wo_inD, wo_ninD, is_n, isnt_n, is_bb, isnt_bb, isN, bOf_b, iOf_i, tru_b, tru_n, tru_i, tru_l, tru_t, seq_l, seq_t, tup_l, tup_t, lst_l, lst_t, len_l, len_t, int_i, int_b, abs_i, max_ii, min_ii, ix_li, ix_ti, cut_l, cut_t, flat_i, flat_b, flat_s, ix0, ix1, ix2, mkTup, mkLst,
  ws_par3, three_c, ws_grp, empty_own, lOwnD_own, wm_lcW, wm_getD, wm_ind, ix3, ix4, ix_m2, ix_m1, ix_p2, ix_p1, wm_newD, ws_setK, wm_get, wm_ixK, wm_sortN, ws_ext, dOwn_own, lOwn_own, lsD_list, step_nx, step_cnt, step_brk, step_ret, step_rof, wm_reve, rev_l, rev_t, wm_opBL, repr_l, sort_l, sum_l, wm_enum, enum_l, enum_t, enumL_nil, wm_dic, wm_kvn, wm_kvc, seq_s, mulT_si, len_s, ord_c, str_i, ty_d, k_lb, k_li, k_ls, k_tb, k_ti, k_ts, k_db, k_di, k_ds, k_lt, k_tl,
  isi_1, tyOk_n, tyOk_b, tyOk_i, tyOk_s, tyOk_l, tyOk_t, ty_n, ty_b, ty_i, ty_s, ty_l, ty_t, k_nb, k_bb, k_ib, k_sb, k_ni, k_bi, k_ii, k_si, k_ns, k_bs, k_is, k_ss, k_ll, k_tt,
  Int.reduceNeg, Int.reducePow, Int.reduceLT, Int.reduceLE, Int.reduceAdd, Int.reduceSub, Int.reduceMul, Int.reduceToNat, Nat.reduceAdd, Nat.reduceLeDiff, Nat.reduceEqDiff, Int.reduceEq, reduceCtorEq, sp_law_flow (goodV_ok hms) (by omega)]
    exact q ms n' hml2 hms
theorem nm_gv {ps : List (Str × Str)} (hg : ∀ p ∈ ps, gv (.str p.1)) (o : Nat) : gv (.str (nmAt ps o)) := by
  unfold nmAt
  cases e : ps[o]? with
  | none => exact ⟨rfl, by decide +kernel⟩
  | some p => exact hg p (List.mem_of_getElem? e)

def kdAt (ps : List (Str × Str)) (o : Nat) : Str := ((ps[o]?).map (·.2)).getD ""
def fdAt (ps : List (Str × Str)) (o : Nat) : D := .tuple [.str (nmAt ps o), .str (kdAt ps o)]
theorem fds_at (ps : List (Str × Str)) : ps.map fdD = (List.range ps.length).map (fdAt ps) := by
  apply List.ext_getElem?
  intro i
  rw [List.getElem?_map, List.getElem?_map]
  by_cases h : i < ps.length
  · rw [List.getElem?_range h, Option.map_some]
    unfold fdAt nmAt kdAt fdD
    rw [List.getElem?_eq_getElem h]
    rfl
  · rw [List.getElem?_eq_none (by omega), List.getElem?_eq_none (by rw [List.length_range]; omega)]
    rfl
theorem in_names2 {ps : List (Str × Str)} {o : Nat} {os : List Nat} (hg : ∀ p ∈ ps, gv (.str p.1)) : inT (.str (nmAt ps o)) (.list (os.map fun o => .str (nmAt ps o))) = some ((os.map fun o => PyData.str (nmAt ps o)).any fun z => PyData.eqv z (.str (nmAt ps o))) := by
  obtain ⟨l1, l2⟩ := lay_row (xs := os.map fun o => .str (nmAt ps o)) fun v hv => by
    obtain ⟨o, _, rfl⟩ := List.mem_map.mp hv
    exact nm_gv hg o
  have hs : SeqAt.shaped (.list (os.map fun o => PyData.str (nmAt ps o))) = true := by
    unfold SeqAt.shaped
    rw [PyData.canLay0, PyData.depth, l1, l2]
    decide
  exact if_pos ⟨(nm_gv hg o).2, hs⟩
theorem eq_nilD {xs : List D} (h1 : PyData.canLayAll0 xs = true) (h2 : PyData.depthAll xs ≤ 2) : eqT (.list xs) (.list []) = some (decide (xs.length = 0)) := by
  have hs : SeqAt.shaped (.list xs) = true := by
    unfold SeqAt.shaped
    rw [PyData.canLay0, PyData.depth, h1]
    simp
    omega
  have hs2 : SeqAt.shaped (.list []) = true := by decide
  show (if _ then _ else _) = _
  rw [if_pos ⟨hs, hs2⟩, PyData.eqv]
  cases xs <;> rfl
theorem pr_lay {ps qs : List (Str × Str)} (hp : ∀ p ∈ ps, gv (.str p.1)) (hq : ∀ p ∈ qs, gv (.str p.1)) : ∀ pr : List (Nat × Nat), PyData.canLayAll0 (pr.map (prD2 ps qs)) = true ∧ PyData.depthAll (pr.map (prD2 ps qs)) ≤ 2
  | [] => ⟨rfl, by simp [PyData.depthAll]⟩
  | x :: pr => by
    obtain ⟨i1, i2⟩ := pr_lay hp hq pr
    have a1 : (PyData.str (nmAt ps x.1)).canLay0 = true := SeqAt.canLay_of_shaped (nm_gv hp x.1).2
    have a2 : (PyData.str (nmAt qs x.2)).canLay0 = true := SeqAt.canLay_of_shaped (nm_gv hq x.2).2
    rw [List.map_cons, PyData.canLayAll0, PyData.depthAll, i1]
    refine ⟨?_, ?_⟩
    · unfold prD2
      rw [PyData.canLay0, PyData.canLayAll0, PyData.canLayAll0, a1, a2]
      rfl
    · have : (prD2 ps qs x).depth ≤ 2 := by simp [prD2, PyData.depth, PyData.depthAll]
      omega
theorem wo_pairs {n : Int} {ps qs : List (Str × Str)} {Q : D × D → Prop} (hgp : ∀ p ∈ ps, gv (.str p.1)) (hgq : ∀ p ∈ qs, gv (.str p.1)) (hp : ps.length ≤ 100) (hq : qs.length ≤ 100)
    (q : ∀ (pr : List (Nat × Nat)) n', (∀ x ∈ pr, x.1 < ps.length ∧ x.2 < qs.length) → pr.length ≤ 100 → Q (.tuple (pr.map (prD2 ps qs)), .list [.int n'])) : Wo (f__law_pairs (.list [.int n]) [.tuple (ps.map fdD), .tuple (qs.map fdD)]) Q := by
  rw [fds_at ps, fds_at qs]
  unfold f__law_pairs
  rw [wo_runIO]
  show Ws g__law_pairs [some (.own true (.list [.int n])), some (.val (.tuple ((List.range ps.length).map (fdAt ps)))), some (.val (.tuple ((List.range qs.length).map (fdAt qs)))), none, none, none, none, none, none] _
  unfold g__law_pairs
  simp only [backE, wipeE, wo_some, wo_none, wm_c, wm_var, wm_frz, wm_bin, wm_un, wm_tst, wm_tru, wm_truB, wm_chain, wm_and, wm_or, wm_not, wm_andV, wm_orV, wm_notV, wm_ifE, wm_nil, wm_cons, wm_app, wm_noP, wm_part, wm_sl, wm_pk, wm_io, wm_ix, wm_inB, wm_true, wm_seq, wm_rng1, wm_rng2,
  then_nx, then_ret, then_rof, then_brk, then_cnt, ws_next, ws_brk, ws_cnt, ws_seq, ws_if, ws_ret, ws_rof, ws_drop, ws_set, ws_own, ws_asg, wo_TN, wo_TNil, wo_TCons, wo_TTup, ws_ap, ws_setIx, ws_for, for_nil, turn_nx, turn_cnt, turn_brk, turn_ret, turn_rof, wm_lc, end_ret, end_nx, end_rof, end_io, ownOf_own, valOf_val, frz_val, frz_own, cOwn_own, peek_val, peek_own, by_val, by_own, canSet_none, canSet_val, canSet_own, lstOf_list,
  List.getElem?_cons_zero, List.getElem?_cons_succ, List.set_cons_zero, List.set_cons_succ, List.length_cons, List.length_nil, wo_ite, wo_bind, ↓reduceIte, and_true, true_and, and_self, Bool.false_eq_true, Bool.not_true, Bool.not_false, decide_eq_true_eq, decide_true, decide_false, oneInt_int, twoInts_int,
  add_ii, add_ll, add_tt, add_ss, sub_ii, mul_ii, mulS_ii, mod_ii, fdiv_ii, neg_i, le_ii, gt_ii, ge_ii, eqT_ii, eqT_ss, eqT_bb, eqT_nn, ltT_ii, ltT_ss, wo_eqD, wo_neD, wo_ltD, wo_inD, wo_ninD, is_n, isnt_n, is_bb, isnt_bb, isN, bOf_b, iOf_i, tru_b, tru_n, tru_i, tru_l, tru_t, seq_l, seq_t, tup_l, tup_t, lst_l, lst_t, len_l, len_t, int_i, int_b, abs_i, max_ii, min_ii, ix_li, ix_ti, cut_l, cut_t, flat_i, flat_b, flat_s, ix0, ix1, ix2, mkTup, mkLst,
  ws_par3, three_c, ws_grp, empty_own, lOwnD_own, wm_lcW, wm_getD, wm_ind, ix3, ix4, ix_m2, ix_m1, ix_p2, ix_p1, wm_newD, ws_setK, wm_get, wm_ixK, wm_sortN, ws_ext, dOwn_own, lOwn_own, lsD_list, step_nx, step_cnt, step_brk, step_ret, step_rof, wm_reve, rev_l, rev_t, wm_opBL, repr_l, sort_l, sum_l, wm_enum, enum_l, enum_t, enumL_nil, wm_dic, wm_kvn, wm_kvc, seq_s, mulT_si, len_s, ord_c, str_i, ty_d, k_lb, k_li, k_ls, k_tb, k_ti, k_ts, k_db, k_di, k_ds, k_lt, k_tl,
  isi_1, tyOk_n, tyOk_b, tyOk_i, tyOk_s, tyOk_l, tyOk_t, ty_n, ty_b, ty_i, ty_s, ty_l, ty_t, k_nb, k_bb, k_ib, k_sb, k_ni, k_bi, k_ii, k_si, k_ns, k_bs, k_is, k_ss, k_ll, k_tt,
  Int.reduceNeg, Int.reducePow, Int.reduceLT, Int.reduceLE, Int.reduceAdd, Int.reduceSub, Int.reduceMul, Int.reduceToNat, Nat.reduceAdd, Nat.reduceLeDiff, Nat.reduceEqDiff, Int.reduceEq, reduceCtorEq]
  refine ws_forA (fdAt ps) (fun p ρ => ∃ (n' : Int) (pr : List (Nat × Nat)) (o4 o5 o6 : Option Cell), (canSet (some o4) = some () ∧ canSet (some o5) = some () ∧ canSet (some o6) = some ()) ∧ (pr.length ≤ p.length ∧ ∀ x ∈ pr, x.1 < ps.length ∧ x.2 < qs.length) ∧ ρ = [some (.own true (.list [.int n'])), some (.val (.tuple ((List.range ps.length).map (fdAt ps)))), some (.val (.tuple ((List.range qs.length).map (fdAt qs)))), some (.own false (.list (pr.map (prD2 ps qs)))), o4, o5, o6, none, none]) ⟨n, [], none, none, none, ⟨rfl, rfl, rfl⟩, ⟨by simp, by simp⟩, rfl⟩ ?_ ?_
  · rintro p i s ρ e ⟨n', pr, o4, o5, o6, ⟨h4, h5, h6⟩, ⟨hpl, hpr⟩, rfl⟩
    obtain ⟨e1, e2⟩ := rng_split e
    simp only [backE, wipeE, wo_some, wo_none, wm_c, wm_var, wm_frz, wm_bin, wm_un, wm_tst, wm_tru, wm_truB, wm_chain, wm_and, wm_or, wm_not, wm_andV, wm_orV, wm_notV, wm_ifE, wm_nil, wm_cons, wm_app, wm_noP, wm_part, wm_sl, wm_pk, wm_io, wm_ix, wm_inB, wm_true, wm_seq, wm_rng1, wm_rng2,
  then_nx, then_ret, then_rof, then_brk, then_cnt, ws_next, ws_brk, ws_cnt, ws_seq, ws_if, ws_ret, ws_rof, ws_drop, ws_set, ws_own, ws_asg, wo_TN, wo_TNil, wo_TCons, wo_TTup, ws_ap, ws_setIx, ws_for, for_nil, turn_nx, turn_cnt, turn_brk, turn_ret, turn_rof, wm_lc, end_ret, end_nx, end_rof, end_io, ownOf_own, valOf_val, frz_val, frz_own, cOwn_own, peek_val, peek_own, by_val, by_own, canSet_none, canSet_val, canSet_own, lstOf_list,
  List.getElem?_cons_zero, List.getElem?_cons_succ, List.set_cons_zero, List.set_cons_succ, List.length_cons, List.length_nil, wo_ite, wo_bind, ↓reduceIte, and_true, true_and, and_self, Bool.false_eq_true, Bool.not_true, Bool.not_false, decide_eq_true_eq, decide_true, decide_false, oneInt_int, twoInts_int,
  add_ii, add_ll, add_tt, add_ss, sub_ii, mul_ii, mulS_ii, mod_ii, fdiv_ii, neg_i, le_ii, gt_ii, ge_ii, eqT_ii, eqT_ss, eqT_bb, eqT_nn, ltT_ii, ltT_ss, wo_eqD, wo_neD, wo_ltD, wo_inD, wo_ninD, is_n, isnt_n, is_bb, isnt_bb, isN, bOf_b, iOf_i, tru_b, tru_n, tru_i, tru_l, tru_t, seq_l, seq_t, tup_l, tup_t, lst_l, lst_t, len_l, len_t, int_i, int_b, abs_i, max_ii, min_ii, ix_li, ix_ti, cut_l, cut_t, flat_i, flat_b, flat_s, ix0, ix1, ix2, mkTup, mkLst,
  ws_par3, three_c, ws_grp, empty_own, lOwnD_own, wm_lcW, wm_getD, wm_ind, ix3, ix4, ix_m2, ix_m1, ix_p2, ix_p1, wm_newD, ws_setK, wm_get, wm_ixK, wm_sortN, ws_ext, dOwn_own, lOwn_own, lsD_list, step_nx, step_cnt, step_brk, step_ret, step_rof, wm_reve, rev_l, rev_t, wm_opBL, repr_l, sort_l, sum_l, wm_enum, enum_l, enum_t, enumL_nil, wm_dic, wm_kvn, wm_kvc, seq_s, mulT_si, len_s, ord_c, str_i, ty_d, k_lb, k_li, k_ls, k_tb, k_ti, k_ts, k_db, k_di, k_ds, k_lt, k_tl,
  isi_1, tyOk_n, tyOk_b, tyOk_i, tyOk_s, tyOk_l, tyOk_t, ty_n, ty_b, ty_i, ty_s, ty_l, ty_t, k_nb, k_bb, k_ib, k_sb, k_ni, k_bi, k_ii, k_si, k_ns, k_bs, k_is, k_ss, k_ll, k_tt,
  Int.reduceNeg, Int.reducePow, Int.reduceLT, Int.reduceLE, Int.reduceAdd, Int.reduceSub, Int.reduceMul, Int.reduceToNat, Nat.reduceAdd, Nat.reduceLeDiff, Nat.reduceEqDiff, Int.reduceEq, reduceCtorEq, h4, List.length_map]
    refine ⟨⟨by omega, rfl, by decide⟩, ?_⟩
    refine lcW_filterA (prD2 ps qs) (fun x => .str (nmAt qs x.2)) (fun _ => true) rfl (fun x hx => ?_) ?_
    · show Wo (gTN 7 _ [_, _, _, some (.own false (.list (pr.map (prD2 ps qs)))), _, _, _, none, none]) _
      simp only [backE, wipeE, wo_some, wo_none, wm_c, wm_var, wm_frz, wm_bin, wm_un, wm_tst, wm_tru, wm_truB, wm_chain, wm_and, wm_or, wm_not, wm_andV, wm_orV, wm_notV, wm_ifE, wm_nil, wm_cons, wm_app, wm_noP, wm_part, wm_sl, wm_pk, wm_io, wm_ix, wm_inB, wm_true, wm_seq, wm_rng1, wm_rng2,
  then_nx, then_ret, then_rof, then_brk, then_cnt, ws_next, ws_brk, ws_cnt, ws_seq, ws_if, ws_ret, ws_rof, ws_drop, ws_set, ws_own, ws_asg, wo_TN, wo_TNil, wo_TCons, wo_TTup, ws_ap, ws_setIx, ws_for, for_nil, turn_nx, turn_cnt, turn_brk, turn_ret, turn_rof, wm_lc, end_ret, end_nx, end_rof, end_io, ownOf_own, valOf_val, frz_val, frz_own, cOwn_own, peek_val, peek_own, by_val, by_own, canSet_none, canSet_val, canSet_own, lstOf_list,
  List.getElem?_cons_zero, List.getElem?_cons_succ, List.set_cons_zero, List.set_cons_succ, List.length_cons, List.length_nil, wo_ite, wo_bind, ↓reduceIte, and_true, true_and, and_self, Bool.false_eq_true, Bool.not_true, Bool.not_false, decide_eq_true_eq, decide_true, decide_false, oneInt_int, twoInts_int,
  add_ii, add_ll, add_tt, add_ss, sub_ii, mul_ii, mulS_ii, mod_ii, fdiv_ii, neg_i, le_ii, gt_ii, ge_ii, eqT_ii, eqT_ss, eqT_bb, eqT_nn, ltT_ii, ltT_ss, wo_eqD, wo_neD, wo_ltD, wo_inD, wo_ninD, is_n, isnt_n, is_bb, isnt_bb, isN, bOf_b, iOf_i, tru_b, tru_n, tru_i, tru_l, tru_t, seq_l, seq_t, tup_l, tup_t, lst_l, lst_t, len_l, len_t, int_i, int_b, abs_i, max_ii, min_ii, ix_li, ix_ti, cut_l, cut_t, flat_i, flat_b, flat_s, ix0, ix1, ix2, mkTup, mkLst,
  ws_par3, three_c, ws_grp, empty_own, lOwnD_own, wm_lcW, wm_getD, wm_ind, ix3, ix4, ix_m2, ix_m1, ix_p2, ix_p1, wm_newD, ws_setK, wm_get, wm_ixK, wm_sortN, ws_ext, dOwn_own, lOwn_own, lsD_list, step_nx, step_cnt, step_brk, step_ret, step_rof, wm_reve, rev_l, rev_t, wm_opBL, repr_l, sort_l, sum_l, wm_enum, enum_l, enum_t, enumL_nil, wm_dic, wm_kvn, wm_kvc, seq_s, mulT_si, len_s, ord_c, str_i, ty_d, k_lb, k_li, k_ls, k_tb, k_ti, k_ts, k_db, k_di, k_ds, k_lt, k_tl,
  isi_1, tyOk_n, tyOk_b, tyOk_i, tyOk_s, tyOk_l, tyOk_t, ty_n, ty_b, ty_i, ty_s, ty_l, ty_t, k_nb, k_bb, k_ib, k_sb, k_ni, k_bi, k_ii, k_si, k_ns, k_bs, k_is, k_ss, k_ll, k_tt,
  Int.reduceNeg, Int.reducePow, Int.reduceLT, Int.reduceLE, Int.reduceAdd, Int.reduceSub, Int.reduceMul, Int.reduceToNat, Nat.reduceAdd, Nat.reduceLeDiff, Nat.reduceEqDiff, Int.reduceEq, reduceCtorEq, prD2]
      refine ⟨fun _ => ?_, fun z => ?_⟩ <;> first | rfl | trivial | cases z
    · have eft : (pr.filter fun _ => true) = pr := List.filter_eq_self.mpr fun _ _ => rfl
      have eus : (pr.map fun x => PyData.str (nmAt qs x.2)) = (pr.map (·.2)).map fun o => .str (nmAt qs o) := by rw [List.map_map]; rfl
      rw [eft, eus]
      have hin := fun j : Nat => in_names2 (ps := qs) (o := j) (os := pr.map (·.2)) hgq
      generalize (pr.map (·.2)).map (fun o => PyData.str (nmAt qs o)) = us at hin ⊢
      simp only [backE, wipeE, wo_some, wo_none, wm_c, wm_var, wm_frz, wm_bin, wm_un, wm_tst, wm_tru, wm_truB, wm_chain, wm_and, wm_or, wm_not, wm_andV, wm_orV, wm_notV, wm_ifE, wm_nil, wm_cons, wm_app, wm_noP, wm_part, wm_sl, wm_pk, wm_io, wm_ix, wm_inB, wm_true, wm_seq, wm_rng1, wm_rng2,
  then_nx, then_ret, then_rof, then_brk, then_cnt, ws_next, ws_brk, ws_cnt, ws_seq, ws_if, ws_ret, ws_rof, ws_drop, ws_set, ws_own, ws_asg, wo_TN, wo_TNil, wo_TCons, wo_TTup, ws_ap, ws_setIx, ws_for, for_nil, turn_nx, turn_cnt, turn_brk, turn_ret, turn_rof, wm_lc, end_ret, end_nx, end_rof, end_io, ownOf_own, valOf_val, frz_val, frz_own, cOwn_own, peek_val, peek_own, by_val, by_own, canSet_none, canSet_val, canSet_own, lstOf_list,
  List.getElem?_cons_zero, List.getElem?_cons_succ, List.set_cons_zero, List.set_cons_succ, List.length_cons, List.length_nil, wo_ite, wo_bind, ↓reduceIte, and_true, true_and, and_self, Bool.false_eq_true, Bool.not_true, Bool.not_false, decide_eq_true_eq, decide_true, decide_false, oneInt_int, twoInts_int,
  add_ii, add_ll, add_tt, add_ss, sub_ii, mul_ii, mulS_ii, mod_ii, fdiv_ii, neg_i, le_ii, gt_ii, ge_ii, eqT_ii, eqT_ss, eqT_bb, eqT_nn, ltT_ii, ltT_ss, wo_eqD, wo_neD, wo_ltD, wo_inD, wo_ninD, is_n, isnt_n, is_bb, isnt_bb, isN, bOf_b, iOf_i, tru_b, tru_n, tru_i, tru_l, tru_t, seq_l, seq_t, tup_l, tup_t, lst_l, lst_t, len_l, len_t, int_i, int_b, abs_i, max_ii, min_ii, ix_li, ix_ti, cut_l, cut_t, flat_i, flat_b, flat_s, ix0, ix1, ix2, mkTup, mkLst,
  ws_par3, three_c, ws_grp, empty_own, lOwnD_own, wm_lcW, wm_getD, wm_ind, ix3, ix4, ix_m2, ix_m1, ix_p2, ix_p1, wm_newD, ws_setK, wm_get, wm_ixK, wm_sortN, ws_ext, dOwn_own, lOwn_own, lsD_list, step_nx, step_cnt, step_brk, step_ret, step_rof, wm_reve, rev_l, rev_t, wm_opBL, repr_l, sort_l, sum_l, wm_enum, enum_l, enum_t, enumL_nil, wm_dic, wm_kvn, wm_kvc, seq_s, mulT_si, len_s, ord_c, str_i, ty_d, k_lb, k_li, k_ls, k_tb, k_ti, k_ts, k_db, k_di, k_ds, k_lt, k_tl,
  isi_1, tyOk_n, tyOk_b, tyOk_i, tyOk_s, tyOk_l, tyOk_t, ty_n, ty_b, ty_i, ty_s, ty_l, ty_t, k_nb, k_bb, k_ib, k_sb, k_ni, k_bi, k_ii, k_si, k_ns, k_bs, k_is, k_ss, k_ll, k_tt,
  Int.reduceNeg, Int.reducePow, Int.reduceLT, Int.reduceLE, Int.reduceAdd, Int.reduceSub, Int.reduceMul, Int.reduceToNat, Nat.reduceAdd, Nat.reduceLeDiff, Nat.reduceEqDiff, Int.reduceEq, reduceCtorEq, backE, h5, List.length_map, List.length_range]
      refine ⟨⟨by omega, rfl⟩, ?_⟩
      refine lc_filterA (fdAt qs) (fun j => .str (nmAt qs j)) (fun j => decide (kdAt qs j = kdAt ps i) && !(us.any fun z => PyData.eqv z (.str (nmAt qs j)))) _ (fun j hj => ?_) ?_
      · show Wo (gTN 8 _ [_, _, _, _, some (.val (fdAt ps i)), some (.val (.list us)), _, none, none]) _
        by_cases c : kdAt qs j = kdAt ps i
        · simp only [backE, wipeE, wo_some, wo_none, wm_c, wm_var, wm_frz, wm_bin, wm_un, wm_tst, wm_tru, wm_truB, wm_chain, wm_and, wm_or, wm_not, wm_andV, wm_orV, wm_notV, wm_ifE, wm_nil, wm_cons, wm_app, wm_noP, wm_part, wm_sl, wm_pk, wm_io, wm_ix, wm_inB, wm_true, wm_seq, wm_rng1, wm_rng2,
  then_nx, then_ret, then_rof, then_brk, then_cnt, ws_next, ws_brk, ws_cnt, ws_seq, ws_if, ws_ret, ws_rof, ws_drop, ws_set, ws_own, ws_asg, wo_TN, wo_TNil, wo_TCons, wo_TTup, ws_ap, ws_setIx, ws_for, for_nil, turn_nx, turn_cnt, turn_brk, turn_ret, turn_rof, wm_lc, end_ret, end_nx, end_rof, end_io, ownOf_own, valOf_val, frz_val, frz_own, cOwn_own, peek_val, peek_own, by_val, by_own, canSet_none, canSet_val, canSet_own, lstOf_list,
  List.getElem?_cons_zero, List.getElem?_cons_succ, List.set_cons_zero, List.set_cons_succ, List.length_cons, List.length_nil, wo_ite, wo_bind, ↓reduceIte, and_true, true_and, and_self, Bool.false_eq_true, Bool.not_true, Bool.not_false, decide_eq_true_eq, decide_true, decide_false, oneInt_int, twoInts_int,
  add_ii, add_ll, add_tt, add_ss, sub_ii, mul_ii, mulS_ii, mod_ii, fdiv_ii, neg_i, le_ii, gt_ii, ge_ii, eqT_ii, eqT_ss, eqT_bb, eqT_nn, ltT_ii, ltT_ss, wo_eqD, wo_neD, wo_ltD, wo_inD, wo_ninD, is_n, isnt_n, is_bb, isnt_bb, isN, bOf_b, iOf_i, tru_b, tru_n, tru_i, tru_l, tru_t, seq_l, seq_t, tup_l, tup_t, lst_l, lst_t, len_l, len_t, int_i, int_b, abs_i, max_ii, min_ii, ix_li, ix_ti, cut_l, cut_t, flat_i, flat_b, flat_s, ix0, ix1, ix2, mkTup, mkLst,
  ws_par3, three_c, ws_grp, empty_own, lOwnD_own, wm_lcW, wm_getD, wm_ind, ix3, ix4, ix_m2, ix_m1, ix_p2, ix_p1, wm_newD, ws_setK, wm_get, wm_ixK, wm_sortN, ws_ext, dOwn_own, lOwn_own, lsD_list, step_nx, step_cnt, step_brk, step_ret, step_rof, wm_reve, rev_l, rev_t, wm_opBL, repr_l, sort_l, sum_l, wm_enum, enum_l, enum_t, enumL_nil, wm_dic, wm_kvn, wm_kvc, seq_s, mulT_si, len_s, ord_c, str_i, ty_d, k_lb, k_li, k_ls, k_tb, k_ti, k_ts, k_db, k_di, k_ds, k_lt, k_tl,
  isi_1, tyOk_n, tyOk_b, tyOk_i, tyOk_s, tyOk_l, tyOk_t, ty_n, ty_b, ty_i, ty_s, ty_l, ty_t, k_nb, k_bb, k_ib, k_sb, k_ni, k_bi, k_ii, k_si, k_ns, k_bs, k_is, k_ss, k_ll, k_tt,
  Int.reduceNeg, Int.reducePow, Int.reduceLT, Int.reduceLE, Int.reduceAdd, Int.reduceSub, Int.reduceMul, Int.reduceToNat, Nat.reduceAdd, Nat.reduceLeDiff, Nat.reduceEqDiff, Int.reduceEq, reduceCtorEq, fdAt, hin j, c]
          cases us.any fun z => PyData.eqv z (.str (nmAt qs j)) <;> refine ⟨?_, fun z => ?_, fun z => ?_⟩ <;> first | rfl | trivial | cases z | simp
        · simp only [backE, wipeE, wo_some, wo_none, wm_c, wm_var, wm_frz, wm_bin, wm_un, wm_tst, wm_tru, wm_truB, wm_chain, wm_and, wm_or, wm_not, wm_andV, wm_orV, wm_notV, wm_ifE, wm_nil, wm_cons, wm_app, wm_noP, wm_part, wm_sl, wm_pk, wm_io, wm_ix, wm_inB, wm_true, wm_seq, wm_rng1, wm_rng2,
  then_nx, then_ret, then_rof, then_brk, then_cnt, ws_next, ws_brk, ws_cnt, ws_seq, ws_if, ws_ret, ws_rof, ws_drop, ws_set, ws_own, ws_asg, wo_TN, wo_TNil, wo_TCons, wo_TTup, ws_ap, ws_setIx, ws_for, for_nil, turn_nx, turn_cnt, turn_brk, turn_ret, turn_rof, wm_lc, end_ret, end_nx, end_rof, end_io, ownOf_own, valOf_val, frz_val, frz_own, cOwn_own, peek_val, peek_own, by_val, by_own, canSet_none, canSet_val, canSet_own, lstOf_list,
  List.getElem?_cons_zero, List.getElem?_cons_succ, List.set_cons_zero, List.set_cons_succ, List.length_cons, List.length_nil, wo_ite, wo_bind, ↓reduceIte, and_true, true_and, and_self, Bool.false_eq_true, Bool.not_true, Bool.not_false, decide_eq_true_eq, decide_true, decide_false, oneInt_int, twoInts_int,
  add_ii, add_ll, add_tt, add_ss, sub_ii, mul_ii, mulS_ii, mod_ii, fdiv_ii, neg_i, le_ii, gt_ii, ge_ii, eqT_ii, eqT_ss, eqT_bb, eqT_nn, ltT_ii, ltT_ss, wo_eqD, wo_neD, wo_ltD, wo_inD, wo_ninD, is_n, isnt_n, is_bb, isnt_bb, isN, bOf_b, iOf_i, tru_b, tru_n, tru_i, tru_l, tru_t, seq_l, seq_t, tup_l, tup_t, lst_l, lst_t, len_l, len_t, int_i, int_b, abs_i, max_ii, min_ii, ix_li, ix_ti, cut_l, cut_t, flat_i, flat_b, flat_s, ix0, ix1, ix2, mkTup, mkLst,
  ws_par3, three_c, ws_grp, empty_own, lOwnD_own, wm_lcW, wm_getD, wm_ind, ix3, ix4, ix_m2, ix_m1, ix_p2, ix_p1, wm_newD, ws_setK, wm_get, wm_ixK, wm_sortN, ws_ext, dOwn_own, lOwn_own, lsD_list, step_nx, step_cnt, step_brk, step_ret, step_rof, wm_reve, rev_l, rev_t, wm_opBL, repr_l, sort_l, sum_l, wm_enum, enum_l, enum_t, enumL_nil, wm_dic, wm_kvn, wm_kvc, seq_s, mulT_si, len_s, ord_c, str_i, ty_d, k_lb, k_li, k_ls, k_tb, k_ti, k_ts, k_db, k_di, k_ds, k_lt, k_tl,
  isi_1, tyOk_n, tyOk_b, tyOk_i, tyOk_s, tyOk_l, tyOk_t, ty_n, ty_b, ty_i, ty_s, ty_l, ty_t, k_nb, k_bb, k_ib, k_sb, k_ni, k_bi, k_ii, k_si, k_ns, k_bs, k_is, k_ss, k_ll, k_tt,
  Int.reduceNeg, Int.reducePow, Int.reduceLT, Int.reduceLE, Int.reduceAdd, Int.reduceSub, Int.reduceMul, Int.reduceToNat, Nat.reduceAdd, Nat.reduceLeDiff, Nat.reduceEqDiff, Int.reduceEq, reduceCtorEq, fdAt, c]
          refine ⟨?_, fun z => ?_, fun z => ?_⟩ <;> first | rfl | trivial | cases z | simp [c]
      · have hjs : ∀ j ∈ (List.range qs.length).filter (fun j => decide (kdAt qs j = kdAt ps i) && !(us.any fun z => PyData.eqv z (.str (nmAt qs j)))), j < qs.length := fun j hj => List.mem_range.mp (List.mem_filter.mp hj).1
        have hjl : ((List.range qs.length).filter (fun j => decide (kdAt qs j = kdAt ps i) && !(us.any fun z => PyData.eqv z (.str (nmAt qs j))))).length ≤ qs.length := by
          have := List.length_filter_le (fun j => decide (kdAt qs j = kdAt ps i) && !(us.any fun z => PyData.eqv z (.str (nmAt qs j)))) (List.range qs.length)
          rw [List.length_range] at this
          exact this
        generalize (List.range qs.length).filter (fun j => decide (kdAt qs j = kdAt ps i) && !(us.any fun z => PyData.eqv z (.str (nmAt qs j)))) = js at hjs hjl ⊢
        obtain ⟨l1, l2⟩ := pr_lay hgp hgq pr
        have heq := eq_nilD l1 l2
        rw [List.length_map] at heq
        have keep : ∀ n2 : Int, ∃ (n' : Int) (pr' : List (Nat × Nat)) (o4' o5' o6' : Option Cell), (canSet (some o4') = some () ∧ canSet (some o5') = some () ∧ canSet (some o6') = some ()) ∧ (pr'.length ≤ (p ++ [i]).length ∧ ∀ x ∈ pr', x.1 < ps.length ∧ x.2 < qs.length) ∧ ([some (.own true (.list [.int n2])), some (.val (.tuple ((List.range ps.length).map (fdAt ps)))), some (.val (.tuple ((List.range qs.length).map (fdAt qs)))), some (.own false (.list (pr.map (prD2 ps qs)))), some (.val (fdAt ps i)), some (.val (.list us)), some (.own false (.list (js.map fun j => .str (nmAt qs j)))), none, none] : Dn.Env) = [some (.own true (.list [.int n'])), some (.val (.tuple ((List.range ps.length).map (fdAt ps)))), some (.val (.tuple ((List.range qs.length).map (fdAt qs)))), some (.own false (.list (pr'.map (prD2 ps qs)))), o4', o5', o6', none, none] := fun n2 => ⟨n2, pr, _, _, _, ⟨rfl, rfl, rfl⟩, ⟨by rw [List.length_append]; omega, hpr⟩, rfl⟩
        have more : ∀ (n2 : Int) (j : Nat), j < qs.length → ∃ (n' : Int) (pr' : List (Nat × Nat)) (o4' o5' o6' : Option Cell), (canSet (some o4') = some () ∧ canSet (some o5') = some () ∧ canSet (some o6') = some ()) ∧ (pr'.length ≤ (p ++ [i]).length ∧ ∀ x ∈ pr', x.1 < ps.length ∧ x.2 < qs.length) ∧ ([some (.own true (.list [.int n2])), some (.val (.tuple ((List.range ps.length).map (fdAt ps)))), some (.val (.tuple ((List.range qs.length).map (fdAt qs)))), some (.own false (.list (pr.map (prD2 ps qs) ++ [.tuple [.str (nmAt ps i), .str (nmAt qs j)]]))), some (.val (fdAt ps i)), some (.val (.list us)), some (.own false (.list (js.map fun j => .str (nmAt qs j)))), none, none] : Dn.Env) = [some (.own true (.list [.int n'])), some (.val (.tuple ((List.range ps.length).map (fdAt ps)))), some (.val (.tuple ((List.range qs.length).map (fdAt qs)))), some (.own false (.list (pr'.map (prD2 ps qs)))), o4', o5', o6', none, none] := fun n2 j hj => ⟨n2, pr ++ [(i, j)], _, _, _, ⟨rfl, rfl, rfl⟩, ⟨by rw [List.length_append, List.length_append]; simp; omega, fun x hx => by
          rcases List.mem_append.mp hx with h | h
          · exact hpr x h
          · rw [List.mem_singleton.mp h]
            exact ⟨e2, hj⟩⟩, by rw [List.map_append]; rfl⟩
        by_cases hj0 : js.length = 0
        · have hz : ¬ ((js.length : Int) > 0) := by omega
          simp only [backE, wipeE, wo_some, wo_none, wm_c, wm_var, wm_frz, wm_bin, wm_un, wm_tst, wm_tru, wm_truB, wm_chain, wm_and, wm_or, wm_not, wm_andV, wm_orV, wm_notV, wm_ifE, wm_nil, wm_cons, wm_app, wm_noP, wm_part, wm_sl, wm_pk, wm_io, wm_ix, wm_inB, wm_true, wm_seq, wm_rng1, wm_rng2,
  then_nx, then_ret, then_rof, then_brk, then_cnt, ws_next, ws_brk, ws_cnt, ws_seq, ws_if, ws_ret, ws_rof, ws_drop, ws_set, ws_own, ws_asg, wo_TN, wo_TNil, wo_TCons, wo_TTup, ws_ap, ws_setIx, ws_for, for_nil, turn_nx, turn_cnt, turn_brk, turn_ret, turn_rof, wm_lc, end_ret, end_nx, end_rof, end_io, ownOf_own, valOf_val, frz_val, frz_own, cOwn_own, peek_val, peek_own, by_val, by_own, canSet_none, canSet_val, canSet_own, lstOf_list,
  List.getElem?_cons_zero, List.getElem?_cons_succ, List.set_cons_zero, List.set_cons_succ, List.length_cons, List.length_nil, wo_ite, wo_bind, ↓reduceIte, and_true, true_and, and_self, Bool.false_eq_true, Bool.not_true, Bool.not_false, decide_eq_true_eq, decide_true, decide_false, oneInt_int, twoInts_int,
  add_ii, add_ll, add_tt, add_ss, sub_ii, mul_ii, mulS_ii, mod_ii, fdiv_ii, neg_i, le_ii, gt_ii, ge_ii, eqT_ii, eqT_ss, eqT_bb, eqT_nn, ltT_ii, ltT_ss, wo_eqD, wo_neD, wo_ltD, wo_inD, wo_ninD, is_n, isnt_n, is_bb, isnt_bb, isN, bOf_b, iOf_i, tru_b, tru_n, tru_i, tru_l, tru_t, seq_l, seq_t, tup_l, tup_t, lst_l, lst_t, len_l, len_t, int_i, int_b, abs_i, max_ii, min_ii, ix_li, ix_ti, cut_l, cut_t, flat_i, flat_b, flat_s, ix0, ix1, ix2, mkTup, mkLst,
  ws_par3, three_c, ws_grp, empty_own, lOwnD_own, wm_lcW, wm_getD, wm_ind, ix3, ix4, ix_m2, ix_m1, ix_p2, ix_p1, wm_newD, ws_setK, wm_get, wm_ixK, wm_sortN, ws_ext, dOwn_own, lOwn_own, lsD_list, step_nx, step_cnt, step_brk, step_ret, step_rof, wm_reve, rev_l, rev_t, wm_opBL, repr_l, sort_l, sum_l, wm_enum, enum_l, enum_t, enumL_nil, wm_dic, wm_kvn, wm_kvc, seq_s, mulT_si, len_s, ord_c, str_i, ty_d, k_lb, k_li, k_ls, k_tb, k_ti, k_ts, k_db, k_di, k_ds, k_lt, k_tl,
  isi_1, tyOk_n, tyOk_b, tyOk_i, tyOk_s, tyOk_l, tyOk_t, ty_n, ty_b, ty_i, ty_s, ty_l, ty_t, k_nb, k_bb, k_ib, k_sb, k_ni, k_bi, k_ii, k_si, k_ns, k_bs, k_is, k_ss, k_ll, k_tt,
  Int.reduceNeg, Int.reducePow, Int.reduceLT, Int.reduceLE, Int.reduceAdd, Int.reduceSub, Int.reduceMul, Int.reduceToNat, Nat.reduceAdd, Nat.reduceLeDiff, Nat.reduceEqDiff, Int.reduceEq, reduceCtorEq, backE, h6, hz, List.length_map]
          exact keep n'
        · have hz : (js.length : Int) > 0 := by omega
          have pick : ∀ n2 : Int, ∃ j : Nat, j < qs.length ∧ f__law_digit (.list [.int n2]) [.int (js.length : Int)] = some (.int (n2 % js.length), .list [.int (n2 / js.length)]) ∧ ixA (js.map fun j => PyData.str (nmAt qs j)) (n2 % (js.length : Int)) = some (.str (nmAt qs j)) := fun n2 => by
            have a := Int.emod_nonneg n2 (show (js.length : Int) ≠ 0 by omega)
            have b := Int.emod_lt_of_pos n2 (show (0 : Int) < js.length by omega)
            obtain ⟨k, hk, hk2⟩ : ∃ k : Nat, n2 % (js.length : Int) = (k : Int) ∧ k < js.length := ⟨(n2 % (js.length : Int)).toNat, by omega, by omega⟩
            refine ⟨js[k], hjs _ (List.getElem_mem hk2), sp_digit n2 _ ⟨by omega, by omega⟩, ?_⟩
            rw [hk, ixA_nat, List.getElem?_map, List.getElem?_eq_getElem hk2]
            rfl
          have hsz : pr.length < 16777216 := by
            have := congrArg List.length e
            rw [List.length_range, List.length_append] at this
            omega
          by_cases hp0 : pr.length = 0
          · have hd : decide (pr.length = 0) = true := decide_eq_true hp0
            obtain ⟨j, j1, j2, j3⟩ := pick n'
            simp only [backE, wipeE, wo_some, wo_none, wm_c, wm_var, wm_frz, wm_bin, wm_un, wm_tst, wm_tru, wm_truB, wm_chain, wm_and, wm_or, wm_not, wm_andV, wm_orV, wm_notV, wm_ifE, wm_nil, wm_cons, wm_app, wm_noP, wm_part, wm_sl, wm_pk, wm_io, wm_ix, wm_inB, wm_true, wm_seq, wm_rng1, wm_rng2,
  then_nx, then_ret, then_rof, then_brk, then_cnt, ws_next, ws_brk, ws_cnt, ws_seq, ws_if, ws_ret, ws_rof, ws_drop, ws_set, ws_own, ws_asg, wo_TN, wo_TNil, wo_TCons, wo_TTup, ws_ap, ws_setIx, ws_for, for_nil, turn_nx, turn_cnt, turn_brk, turn_ret, turn_rof, wm_lc, end_ret, end_nx, end_rof, end_io, ownOf_own, valOf_val, frz_val, frz_own, cOwn_own, peek_val, peek_own, by_val, by_own, canSet_none, canSet_val, canSet_own, lstOf_list,
  List.getElem?_cons_zero, List.getElem?_cons_succ, List.set_cons_zero, List.set_cons_succ, List.length_cons, List.length_nil, wo_ite, wo_bind, ↓reduceIte, and_true, true_and, and_self, Bool.false_eq_true, Bool.not_true, Bool.not_false, decide_eq_true_eq, decide_true, decide_false, oneInt_int, twoInts_int,
  add_ii, add_ll, add_tt, add_ss, sub_ii, mul_ii, mulS_ii, mod_ii, fdiv_ii, neg_i, le_ii, gt_ii, ge_ii, eqT_ii, eqT_ss, eqT_bb, eqT_nn, ltT_ii, ltT_ss, wo_eqD, wo_neD, wo_ltD, wo_inD, wo_ninD, is_n, isnt_n, is_bb, isnt_bb, isN, bOf_b, iOf_i, tru_b, tru_n, tru_i, tru_l, tru_t, seq_l, seq_t, tup_l, tup_t, lst_l, lst_t, len_l, len_t, int_i, int_b, abs_i, max_ii, min_ii, ix_li, ix_ti, cut_l, cut_t, flat_i, flat_b, flat_s, ix0, ix1, ix2, mkTup, mkLst,
  ws_par3, three_c, ws_grp, empty_own, lOwnD_own, wm_lcW, wm_getD, wm_ind, ix3, ix4, ix_m2, ix_m1, ix_p2, ix_p1, wm_newD, ws_setK, wm_get, wm_ixK, wm_sortN, ws_ext, dOwn_own, lOwn_own, lsD_list, step_nx, step_cnt, step_brk, step_ret, step_rof, wm_reve, rev_l, rev_t, wm_opBL, repr_l, sort_l, sum_l, wm_enum, enum_l, enum_t, enumL_nil, wm_dic, wm_kvn, wm_kvc, seq_s, mulT_si, len_s, ord_c, str_i, ty_d, k_lb, k_li, k_ls, k_tb, k_ti, k_ts, k_db, k_di, k_ds, k_lt, k_tl,
  isi_1, tyOk_n, tyOk_b, tyOk_i, tyOk_s, tyOk_l, tyOk_t, ty_n, ty_b, ty_i, ty_s, ty_l, ty_t, k_nb, k_bb, k_ib, k_sb, k_ni, k_bi, k_ii, k_si, k_ns, k_bs, k_is, k_ss, k_ll, k_tt,
  Int.reduceNeg, Int.reducePow, Int.reduceLT, Int.reduceLE, Int.reduceAdd, Int.reduceSub, Int.reduceMul, Int.reduceToNat, Nat.reduceAdd, Nat.reduceLeDiff, Nat.reduceEqDiff, Int.reduceEq, reduceCtorEq, backE, h6, hz, heq, hd, fdAt, j2, j3, List.length_map]
            exact ⟨hsz, more _ j j1⟩
          · have hd : decide (pr.length = 0) = false := decide_eq_false hp0
            by_cases hb : n' % 2 = 0
            · obtain ⟨j, j1, j2, j3⟩ := pick (n' / 2)
              simp only [backE, wipeE, wo_some, wo_none, wm_c, wm_var, wm_frz, wm_bin, wm_un, wm_tst, wm_tru, wm_truB, wm_chain, wm_and, wm_or, wm_not, wm_andV, wm_orV, wm_notV, wm_ifE, wm_nil, wm_cons, wm_app, wm_noP, wm_part, wm_sl, wm_pk, wm_io, wm_ix, wm_inB, wm_true, wm_seq, wm_rng1, wm_rng2,
  then_nx, then_ret, then_rof, then_brk, then_cnt, ws_next, ws_brk, ws_cnt, ws_seq, ws_if, ws_ret, ws_rof, ws_drop, ws_set, ws_own, ws_asg, wo_TN, wo_TNil, wo_TCons, wo_TTup, ws_ap, ws_setIx, ws_for, for_nil, turn_nx, turn_cnt, turn_brk, turn_ret, turn_rof, wm_lc, end_ret, end_nx, end_rof, end_io, ownOf_own, valOf_val, frz_val, frz_own, cOwn_own, peek_val, peek_own, by_val, by_own, canSet_none, canSet_val, canSet_own, lstOf_list,
  List.getElem?_cons_zero, List.getElem?_cons_succ, List.set_cons_zero, List.set_cons_succ, List.length_cons, List.length_nil, wo_ite, wo_bind, ↓reduceIte, and_true, true_and, and_self, Bool.false_eq_true, Bool.not_true, Bool.not_false, decide_eq_true_eq, decide_true, decide_false, oneInt_int, twoInts_int,
  add_ii, add_ll, add_tt, add_ss, sub_ii, mul_ii, mulS_ii, mod_ii, fdiv_ii, neg_i, le_ii, gt_ii, ge_ii, eqT_ii, eqT_ss, eqT_bb, eqT_nn, ltT_ii, ltT_ss, wo_eqD, wo_neD, wo_ltD, wo_inD, wo_ninD, is_n, isnt_n, is_bb, isnt_bb, isN, bOf_b, iOf_i, tru_b, tru_n, tru_i, tru_l, tru_t, seq_l, seq_t, tup_l, tup_t, lst_l, lst_t, len_l, len_t, int_i, int_b, abs_i, max_ii, min_ii, ix_li, ix_ti, cut_l, cut_t, flat_i, flat_b, flat_s, ix0, ix1, ix2, mkTup, mkLst,
  ws_par3, three_c, ws_grp, empty_own, lOwnD_own, wm_lcW, wm_getD, wm_ind, ix3, ix4, ix_m2, ix_m1, ix_p2, ix_p1, wm_newD, ws_setK, wm_get, wm_ixK, wm_sortN, ws_ext, dOwn_own, lOwn_own, lsD_list, step_nx, step_cnt, step_brk, step_ret, step_rof, wm_reve, rev_l, rev_t, wm_opBL, repr_l, sort_l, sum_l, wm_enum, enum_l, enum_t, enumL_nil, wm_dic, wm_kvn, wm_kvc, seq_s, mulT_si, len_s, ord_c, str_i, ty_d, k_lb, k_li, k_ls, k_tb, k_ti, k_ts, k_db, k_di, k_ds, k_lt, k_tl,
  isi_1, tyOk_n, tyOk_b, tyOk_i, tyOk_s, tyOk_l, tyOk_t, ty_n, ty_b, ty_i, ty_s, ty_l, ty_t, k_nb, k_bb, k_ib, k_sb, k_ni, k_bi, k_ii, k_si, k_ns, k_bs, k_is, k_ss, k_ll, k_tt,
  Int.reduceNeg, Int.reducePow, Int.reduceLT, Int.reduceLE, Int.reduceAdd, Int.reduceSub, Int.reduceMul, Int.reduceToNat, Nat.reduceAdd, Nat.reduceLeDiff, Nat.reduceEqDiff, Int.reduceEq, reduceCtorEq, backE, h6, hz, heq, hd, sp_digit, hb, fdAt, j2, j3, List.length_map]
              exact ⟨hsz, more _ j j1⟩
            · simp only [backE, wipeE, wo_some, wo_none, wm_c, wm_var, wm_frz, wm_bin, wm_un, wm_tst, wm_tru, wm_truB, wm_chain, wm_and, wm_or, wm_not, wm_andV, wm_orV, wm_notV, wm_ifE, wm_nil, wm_cons, wm_app, wm_noP, wm_part, wm_sl, wm_pk, wm_io, wm_ix, wm_inB, wm_true, wm_seq, wm_rng1, wm_rng2,
  then_nx, then_ret, then_rof, then_brk, then_cnt, ws_next, ws_brk, ws_cnt, ws_seq, ws_if, ws_ret, ws_rof, ws_drop, ws_set, ws_own, ws_asg, wo_TN, wo_TNil, wo_TCons, wo_TTup, ws_ap, ws_setIx, ws_for, for_nil, turn_nx, turn_cnt, turn_brk, turn_ret, turn_rof, wm_lc, end_ret, end_nx, end_rof, end_io, ownOf_own, valOf_val, frz_val, frz_own, cOwn_own, peek_val, peek_own, by_val, by_own, canSet_none, canSet_val, canSet_own, lstOf_list,
  List.getElem?_cons_zero, List.getElem?_cons_succ, List.set_cons_zero, List.set_cons_succ, List.length_cons, List.length_nil, wo_ite, wo_bind, ↓reduceIte, and_true, true_and, and_self, Bool.false_eq_true, Bool.not_true, Bool.not_false, decide_eq_true_eq, decide_true, decide_false, oneInt_int, twoInts_int,
  add_ii, add_ll, add_tt, add_ss, sub_ii, mul_ii, mulS_ii, mod_ii, fdiv_ii, neg_i, le_ii, gt_ii, ge_ii, eqT_ii, eqT_ss, eqT_bb, eqT_nn, ltT_ii, ltT_ss, wo_eqD, wo_neD, wo_ltD, wo_inD, wo_ninD, is_n, isnt_n, is_bb, isnt_bb, isN, bOf_b, iOf_i, tru_b, tru_n, tru_i, tru_l, tru_t, seq_l, seq_t, tup_l, tup_t, lst_l, lst_t, len_l, len_t, int_i, int_b, abs_i, max_ii, min_ii, ix_li, ix_ti, cut_l, cut_t, flat_i, flat_b, flat_s, ix0, ix1, ix2, mkTup, mkLst,
  ws_par3, three_c, ws_grp, empty_own, lOwnD_own, wm_lcW, wm_getD, wm_ind, ix3, ix4, ix_m2, ix_m1, ix_p2, ix_p1, wm_newD, ws_setK, wm_get, wm_ixK, wm_sortN, ws_ext, dOwn_own, lOwn_own, lsD_list, step_nx, step_cnt, step_brk, step_ret, step_rof, wm_reve, rev_l, rev_t, wm_opBL, repr_l, sort_l, sum_l, wm_enum, enum_l, enum_t, enumL_nil, wm_dic, wm_kvn, wm_kvc, seq_s, mulT_si, len_s, ord_c, str_i, ty_d, k_lb, k_li, k_ls, k_tb, k_ti, k_ts, k_db, k_di, k_ds, k_lt, k_tl,
  isi_1, tyOk_n, tyOk_b, tyOk_i, tyOk_s, tyOk_l, tyOk_t, ty_n, ty_b, ty_i, ty_s, ty_l, ty_t, k_nb, k_bb, k_ib, k_sb, k_ni, k_bi, k_ii, k_si, k_ns, k_bs, k_is, k_ss, k_ll, k_tt,
  Int.reduceNeg, Int.reducePow, Int.reduceLT, Int.reduceLE, Int.reduceAdd, Int.reduceSub, Int.reduceMul, Int.reduceToNat, Nat.reduceAdd, Nat.reduceLeDiff, Nat.reduceEqDiff, Int.reduceEq, reduceCtorEq, backE, h6, hz, heq, hd, sp_digit, hb, List.length_map]
              exact keep _
  · rintro ρ' ⟨n', pr, o4, o5, o6, ⟨h4, h5, h6⟩, ⟨hpl, hpr⟩, rfl⟩
    rw [List.length_range] at hpl
    simp only [backE, wipeE, wo_some, wo_none, wm_c, wm_var, wm_frz, wm_bin, wm_un, wm_tst, wm_tru, wm_truB, wm_chain, wm_and, wm_or, wm_not, wm_andV, wm_orV, wm_notV, wm_ifE, wm_nil, wm_cons, wm_app, wm_noP, wm_part, wm_sl, wm_pk, wm_io, wm_ix, wm_inB, wm_true, wm_seq, wm_rng1, wm_rng2,
  then_nx, then_ret, then_rof, then_brk, then_cnt, ws_next, ws_brk, ws_cnt, ws_seq, ws_if, ws_ret, ws_rof, ws_drop, ws_set, ws_own, ws_asg, wo_TN, wo_TNil, wo_TCons, wo_TTup, ws_ap, ws_setIx, ws_for, for_nil, turn_nx, turn_cnt, turn_brk, turn_ret, turn_rof, wm_lc, end_ret, end_nx, end_rof, end_io, ownOf_own, valOf_val, frz_val, frz_own, cOwn_own, peek_val, peek_own, by_val, by_own, canSet_none, canSet_val, canSet_own, lstOf_list,
  List.getElem?_cons_zero, List.getElem?_cons_succ, List.set_cons_zero, List.set_cons_succ, List.length_cons, List.length_nil, wo_ite, wo_bind, ↓reduceIte, and_true, true_and, and_self, Bool.false_eq_true, Bool.not_true, Bool.not_false, decide_eq_true_eq, decide_true, decide_false, oneInt_int, twoInts_int,
  add_ii, add_ll, add_tt, add_ss, sub_ii, mul_ii, mulS_ii, mod_ii, fdiv_ii, neg_i, le_ii, gt_ii, ge_ii, eqT_ii, eqT_ss, eqT_bb, eqT_nn, ltT_ii, ltT_ss, wo_eqD, wo_neD, wo_ltD, wo_inD, wo_ninD, is_n, isnt_n, is_bb, isnt_bb, isN, bOf_b, iOf_i, tru_b, tru_n, tru_i, tru_l, tru_t, seq_l, seq_t, tup_l, tup_t, lst_l, lst_t, len_l, len_t, int_i, int_b, abs_i, max_ii, min_ii, ix_li, ix_ti, cut_l, cut_t, flat_i, flat_b, flat_s, ix0, ix1, ix2, mkTup, mkLst,
  ws_par3, three_c, ws_grp, empty_own, lOwnD_own, wm_lcW, wm_getD, wm_ind, ix3, ix4, ix_m2, ix_m1, ix_p2, ix_p1, wm_newD, ws_setK, wm_get, wm_ixK, wm_sortN, ws_ext, dOwn_own, lOwn_own, lsD_list, step_nx, step_cnt, step_brk, step_ret, step_rof, wm_reve, rev_l, rev_t, wm_opBL, repr_l, sort_l, sum_l, wm_enum, enum_l, enum_t, enumL_nil, wm_dic, wm_kvn, wm_kvc, seq_s, mulT_si, len_s, ord_c, str_i, ty_d, k_lb, k_li, k_ls, k_tb, k_ti, k_ts, k_db, k_di, k_ds, k_lt, k_tl,
  isi_1, tyOk_n, tyOk_b, tyOk_i, tyOk_s, tyOk_l, tyOk_t, ty_n, ty_b, ty_i, ty_s, ty_l, ty_t, k_nb, k_bb, k_ib, k_sb, k_ni, k_bi, k_ii, k_si, k_ns, k_bs, k_is, k_ss, k_ll, k_tt,
  Int.reduceNeg, Int.reducePow, Int.reduceLT, Int.reduceLE, Int.reduceAdd, Int.reduceSub, Int.reduceMul, Int.reduceToNat, Nat.reduceAdd, Nat.reduceLeDiff, Nat.reduceEqDiff, Int.reduceEq, reduceCtorEq]
    exact q pr n' hpr (by omega)

theorem abc_gvL {ps : List (Str × Str)} {nl : List Str} (h0 : nl.Nodup) (h1 : ∀ x ∈ nl, gv (.str x)) (h : ps.map (·.1) = nl.take ps.length) : (∀ p ∈ ps, gv (.str p.1)) ∧ (ps.map (·.1)).Nodup := by
  refine ⟨fun p hp => ?_, ?_⟩
  · have hm : p.1 ∈ ps.map (·.1) := List.mem_map.mpr ⟨p, hp, rfl⟩
    rw [h] at hm
    exact h1 _ (List.mem_of_mem_take hm)
  · rw [h]
    exact h0.sublist (List.take_sublist _ _)
theorem abc_gv {ps : List (Str × Str)} (h : ps.map (·.1) = (["a", "b", "c"] : List Str).take ps.length) : (∀ p ∈ ps, gv (.str p.1)) ∧ (ps.map (·.1)).Nodup := abc_gvL (by decide +kernel) (fun x hx => by
  simp only [List.mem_cons, List.not_mem_nil, or_false] at hx
  rcases hx with rfl | rfl | rfl <;> exact ⟨rfl, by decide +kernel⟩) h
theorem xyz_gv {ps : List (Str × Str)} (h : ps.map (·.1) = (["x", "y", "z"] : List Str).take ps.length) : (∀ p ∈ ps, gv (.str p.1)) ∧ (ps.map (·.1)).Nodup := abc_gvL (by decide +kernel) (fun x hx => by
  simp only [List.mem_cons, List.not_mem_nil, or_false] at hx
  rcases hx with rfl | rfl | rfl <;> exact ⟨rfl, by decide +kernel⟩) h
theorem flw_rows {ps : List (Str × Str)} {ms : List Mv} (h : ∀ m ∈ ms, goodV ps m) (hl : ms.length ≤ 100) : okB 1000 ps.length (flw ms) := by
  have om := goodV_ok h
  refine ⟨flw_ok om, fun m hm => ?_⟩
  have h4 := ((flw_mem om).mp hm)
  obtain ⟨x, hx, ex⟩ := wt_has om h4.2.1 (by rw [h4.2.2]; exact h4.1)
  have hb := wt_bound (b := 2) (k := m.1) (ms := ms) (fun y hy => by have := (h y hy).2.2.2.2; omega) (by decide)
  rw [h4.2.2] at hb
  refine ⟨?_, by omega, by omega⟩
  rw [← ex]
  exact fits_len (h x hx).2.2.1

theorem law_true : ∀ ns : List Int, ns.length ≤ 63 → f_law [.list (ns.map PyData.int)] = some (.bool true) := by
  intro ns hns
  rw [← wo_eq]
  unfold f_law
  rw [wo_runV]
  show Ws g_law [some (.val (.list (ns.map PyData.int))), none, none, none, none, none, none, none, none, none, none, none, none, none] _
  unfold g_law
  simp only [backE, wipeE, wo_some, wo_none, wm_c, wm_var, wm_frz, wm_bin, wm_un, wm_tst, wm_tru, wm_truB, wm_chain, wm_and, wm_or, wm_not, wm_andV, wm_orV, wm_notV, wm_ifE, wm_nil, wm_cons, wm_app, wm_noP, wm_part, wm_sl, wm_pk, wm_io, wm_ix, wm_inB, wm_true, wm_seq, wm_rng1, wm_rng2,
  then_nx, then_ret, then_rof, then_brk, then_cnt, ws_next, ws_brk, ws_cnt, ws_seq, ws_if, ws_ret, ws_rof, ws_drop, ws_set, ws_own, ws_asg, wo_TN, wo_TNil, wo_TCons, wo_TTup, ws_ap, ws_setIx, ws_for, for_nil, turn_nx, turn_cnt, turn_brk, turn_ret, turn_rof, wm_lc, end_ret, end_nx, end_rof, end_io, ownOf_own, valOf_val, frz_val, frz_own, cOwn_own, peek_val, peek_own, by_val, by_own, canSet_none, canSet_val, canSet_own, lstOf_list,
  List.getElem?_cons_zero, List.getElem?_cons_succ, List.set_cons_zero, List.set_cons_succ, List.length_cons, List.length_nil, wo_ite, wo_bind, ↓reduceIte, and_true, true_and, and_self, Bool.false_eq_true, Bool.not_true, Bool.not_false, decide_eq_true_eq, decide_true, decide_false, oneInt_int, twoInts_int,
  add_ii, add_ll, add_tt, add_ss, sub_ii, mul_ii, mulS_ii, mod_ii, fdiv_ii, neg_i, le_ii, gt_ii, ge_ii, eqT_ii, eqT_ss, eqT_bb, eqT_nn, ltT_ii, ltT_ss, wo_eqD, wo_neD, wo_ltD, wo_inD, wo_ninD, is_n, isnt_n, is_bb, isnt_bb, isN, bOf_b, iOf_i, tru_b, tru_n, tru_i, tru_l, tru_t, seq_l, seq_t, tup_l, tup_t, lst_l, lst_t, len_l, len_t, int_i, int_b, abs_i, max_ii, min_ii, ix_li, ix_ti, cut_l, cut_t, flat_i, flat_b, flat_s, ix0, ix1, ix2, mkTup, mkLst,
  ws_par3, three_c, ws_grp, empty_own, lOwnD_own, wm_lcW, wm_getD, wm_ind, ix3, ix4, ix_m2, ix_m1, ix_p2, ix_p1, wm_newD, ws_setK, wm_get, wm_ixK, wm_sortN, ws_ext, dOwn_own, lOwn_own, lsD_list, step_nx, step_cnt, step_brk, step_ret, step_rof, wm_reve, rev_l, rev_t, wm_opBL, repr_l, sort_l, sum_l, wm_enum, enum_l, enum_t, enumL_nil, wm_dic, wm_kvn, wm_kvc, seq_s, mulT_si, len_s, ord_c, str_i, ty_d, k_lb, k_li, k_ls, k_tb, k_ti, k_ts, k_db, k_di, k_ds, k_lt, k_tl,
  isi_1, tyOk_n, tyOk_b, tyOk_i, tyOk_s, tyOk_l, tyOk_t, ty_n, ty_b, ty_i, ty_s, ty_l, ty_t, k_nb, k_bb, k_ib, k_sb, k_ni, k_bi, k_ii, k_si, k_ns, k_bs, k_is, k_ss, k_ll, k_tt,
  Int.reduceNeg, Int.reducePow, Int.reduceLT, Int.reduceLE, Int.reduceAdd, Int.reduceSub, Int.reduceMul, Int.reduceToNat, Nat.reduceAdd, Nat.reduceLeDiff, Nat.reduceEqDiff, Int.reduceEq, reduceCtorEq, List.length_map]
  have hdiv : ((ns.length : Int) / 2) = ((ns.length / 2 : Nat) : Int) := by omega
  rw [hdiv]
  obtain ⟨n, hn, hn8⟩ := times (l := ns.length / 2) (m := 7) (M := 7) rfl (by decide)
  rw [hn, if_pos (small_nat (by omega)), Int.toNat_natCast, rng_map]
  refine ws_forA (fun i : Nat => PyData.int i) (fun p ρ => ∃ (o1 o2 o3 o4 o5 o6 o7 o8 o9 o10 o11 o12 o13 : Option Cell), (canSet (some o1) = some () ∧ canSet (some o2) = some () ∧ canSet (some o3) = some () ∧ canSet (some o4) = some () ∧ canSet (some o5) = some () ∧ canSet (some o6) = some () ∧ canSet (some o7) = some () ∧ canSet (some o8) = some () ∧ canSet (some o9) = some () ∧ canSet (some o10) = some () ∧ canSet (some o11) = some () ∧ canSet (some o12) = some () ∧ canSet (some o13) = some ()) ∧ ρ = [some (.val (.list (ns.map PyData.int))), o1, o2, o3, o4, o5, o6, o7, o8, o9, o10, o11, o12, o13]) ⟨none, none, none, none, none, none, none, none, none, none, none, none, none, ⟨rfl, rfl, rfl, rfl, rfl, rfl, rfl, rfl, rfl, rfl, rfl, rfl, rfl⟩, rfl⟩ ?_ ?_
  · rintro p i r ρ e ⟨o1, o2, o3, o4, o5, o6, o7, o8, o9, o10, o11, o12, o13, ⟨h1, h2, h3, h4, h5, h6, h7, h8, h9, h10, h11, h12, h13⟩, rfl⟩
    obtain ⟨_, hin⟩ := rng_split e
    have hlog : (Int.natAbs 2).log2 + ((i : Int)).natAbs.log2 < 1000000 := small_log ⟨by omega, by omega⟩ ⟨by omega, by omega⟩
    simp only [backE, wipeE, wo_some, wo_none, wm_c, wm_var, wm_frz, wm_bin, wm_un, wm_tst, wm_tru, wm_truB, wm_chain, wm_and, wm_or, wm_not, wm_andV, wm_orV, wm_notV, wm_ifE, wm_nil, wm_cons, wm_app, wm_noP, wm_part, wm_sl, wm_pk, wm_io, wm_ix, wm_inB, wm_true, wm_seq, wm_rng1, wm_rng2,
  then_nx, then_ret, then_rof, then_brk, then_cnt, ws_next, ws_brk, ws_cnt, ws_seq, ws_if, ws_ret, ws_rof, ws_drop, ws_set, ws_own, ws_asg, wo_TN, wo_TNil, wo_TCons, wo_TTup, ws_ap, ws_setIx, ws_for, for_nil, turn_nx, turn_cnt, turn_brk, turn_ret, turn_rof, wm_lc, end_ret, end_nx, end_rof, end_io, ownOf_own, valOf_val, frz_val, frz_own, cOwn_own, peek_val, peek_own, by_val, by_own, canSet_none, canSet_val, canSet_own, lstOf_list,
  List.getElem?_cons_zero, List.getElem?_cons_succ, List.set_cons_zero, List.set_cons_succ, List.length_cons, List.length_nil, wo_ite, wo_bind, ↓reduceIte, and_true, true_and, and_self, Bool.false_eq_true, Bool.not_true, Bool.not_false, decide_eq_true_eq, decide_true, decide_false, oneInt_int, twoInts_int,
  add_ii, add_ll, add_tt, add_ss, sub_ii, mul_ii, mulS_ii, mod_ii, fdiv_ii, neg_i, le_ii, gt_ii, ge_ii, eqT_ii, eqT_ss, eqT_bb, eqT_nn, ltT_ii, ltT_ss, wo_eqD, wo_neD, wo_ltD, wo_inD, wo_ninD, is_n, isnt_n, is_bb, isnt_bb, isN, bOf_b, iOf_i, tru_b, tru_n, tru_i, tru_l, tru_t, seq_l, seq_t, tup_l, tup_t, lst_l, lst_t, len_l, len_t, int_i, int_b, abs_i, max_ii, min_ii, ix_li, ix_ti, cut_l, cut_t, flat_i, flat_b, flat_s, ix0, ix1, ix2, mkTup, mkLst,
  ws_par3, three_c, ws_grp, empty_own, lOwnD_own, wm_lcW, wm_getD, wm_ind, ix3, ix4, ix_m2, ix_m1, ix_p2, ix_p1, wm_newD, ws_setK, wm_get, wm_ixK, wm_sortN, ws_ext, dOwn_own, lOwn_own, lsD_list, step_nx, step_cnt, step_brk, step_ret, step_rof, wm_reve, rev_l, rev_t, wm_opBL, repr_l, sort_l, sum_l, wm_enum, enum_l, enum_t, enumL_nil, wm_dic, wm_kvn, wm_kvc, seq_s, mulT_si, len_s, ord_c, str_i, ty_d, k_lb, k_li, k_ls, k_tb, k_ti, k_ts, k_db, k_di, k_ds, k_lt, k_tl,
  isi_1, tyOk_n, tyOk_b, tyOk_i, tyOk_s, tyOk_l, tyOk_t, ty_n, ty_b, ty_i, ty_s, ty_l, ty_t, k_nb, k_bb, k_ib, k_sb, k_ni, k_bi, k_ii, k_si, k_ns, k_bs, k_is, k_ss, k_ll, k_tt,
  Int.reduceNeg, Int.reducePow, Int.reduceLT, Int.reduceLE, Int.reduceAdd, Int.reduceSub, Int.reduceMul, Int.reduceToNat, Nat.reduceAdd, Nat.reduceLeDiff, Nat.reduceEqDiff, Int.reduceEq, reduceCtorEq, h1, h2, hlog]
    refine wo_cell (by omega) fun c => ?_
    refine wo_start fun s => ?_
    have e3 : ([.str "a", .str "b", .str "c"] : List D) = (["a", "b", "c"] : List Str).map PyData.str := rfl
    have e4 : ([.str "x", .str "y", .str "z"] : List D) = (["x", "y", "z"] : List Str).map PyData.str := rfl
    simp only [backE, wipeE, wo_some, wo_none, wm_c, wm_var, wm_frz, wm_bin, wm_un, wm_tst, wm_tru, wm_truB, wm_chain, wm_and, wm_or, wm_not, wm_andV, wm_orV, wm_notV, wm_ifE, wm_nil, wm_cons, wm_app, wm_noP, wm_part, wm_sl, wm_pk, wm_io, wm_ix, wm_inB, wm_true, wm_seq, wm_rng1, wm_rng2,
  then_nx, then_ret, then_rof, then_brk, then_cnt, ws_next, ws_brk, ws_cnt, ws_seq, ws_if, ws_ret, ws_rof, ws_drop, ws_set, ws_own, ws_asg, wo_TN, wo_TNil, wo_TCons, wo_TTup, ws_ap, ws_setIx, ws_for, for_nil, turn_nx, turn_cnt, turn_brk, turn_ret, turn_rof, wm_lc, end_ret, end_nx, end_rof, end_io, ownOf_own, valOf_val, frz_val, frz_own, cOwn_own, peek_val, peek_own, by_val, by_own, canSet_none, canSet_val, canSet_own, lstOf_list,
  List.getElem?_cons_zero, List.getElem?_cons_succ, List.set_cons_zero, List.set_cons_succ, List.length_cons, List.length_nil, wo_ite, wo_bind, ↓reduceIte, and_true, true_and, and_self, Bool.false_eq_true, Bool.not_true, Bool.not_false, decide_eq_true_eq, decide_true, decide_false, oneInt_int, twoInts_int,
  add_ii, add_ll, add_tt, add_ss, sub_ii, mul_ii, mulS_ii, mod_ii, fdiv_ii, neg_i, le_ii, gt_ii, ge_ii, eqT_ii, eqT_ss, eqT_bb, eqT_nn, ltT_ii, ltT_ss, wo_eqD, wo_neD, wo_ltD, wo_inD, wo_ninD, is_n, isnt_n, is_bb, isnt_bb, isN, bOf_b, iOf_i, tru_b, tru_n, tru_i, tru_l, tru_t, seq_l, seq_t, tup_l, tup_t, lst_l, lst_t, len_l, len_t, int_i, int_b, abs_i, max_ii, min_ii, ix_li, ix_ti, cut_l, cut_t, flat_i, flat_b, flat_s, ix0, ix1, ix2, mkTup, mkLst,
  ws_par3, three_c, ws_grp, empty_own, lOwnD_own, wm_lcW, wm_getD, wm_ind, ix3, ix4, ix_m2, ix_m1, ix_p2, ix_p1, wm_newD, ws_setK, wm_get, wm_ixK, wm_sortN, ws_ext, dOwn_own, lOwn_own, lsD_list, step_nx, step_cnt, step_brk, step_ret, step_rof, wm_reve, rev_l, rev_t, wm_opBL, repr_l, sort_l, sum_l, wm_enum, enum_l, enum_t, enumL_nil, wm_dic, wm_kvn, wm_kvc, seq_s, mulT_si, len_s, ord_c, str_i, ty_d, k_lb, k_li, k_ls, k_tb, k_ti, k_ts, k_db, k_di, k_ds, k_lt, k_tl,
  isi_1, tyOk_n, tyOk_b, tyOk_i, tyOk_s, tyOk_l, tyOk_t, ty_n, ty_b, ty_i, ty_s, ty_l, ty_t, k_nb, k_bb, k_ib, k_sb, k_ni, k_bi, k_ii, k_si, k_ns, k_bs, k_is, k_ss, k_ll, k_tt,
  Int.reduceNeg, Int.reducePow, Int.reduceLT, Int.reduceLE, Int.reduceAdd, Int.reduceSub, Int.reduceMul, Int.reduceToNat, Nat.reduceAdd, Nat.reduceLeDiff, Nat.reduceEqDiff, Int.reduceEq, reduceCtorEq, h3]
    rw [e3]
    refine wo_three rfl fun ps n1 hp1 hp3 hkd hnm => ?_
    obtain ⟨hgp, hnp⟩ := abc_gv hnm
    simp only [backE, wipeE, wo_some, wo_none, wm_c, wm_var, wm_frz, wm_bin, wm_un, wm_tst, wm_tru, wm_truB, wm_chain, wm_and, wm_or, wm_not, wm_andV, wm_orV, wm_notV, wm_ifE, wm_nil, wm_cons, wm_app, wm_noP, wm_part, wm_sl, wm_pk, wm_io, wm_ix, wm_inB, wm_true, wm_seq, wm_rng1, wm_rng2,
  then_nx, then_ret, then_rof, then_brk, then_cnt, ws_next, ws_brk, ws_cnt, ws_seq, ws_if, ws_ret, ws_rof, ws_drop, ws_set, ws_own, ws_asg, wo_TN, wo_TNil, wo_TCons, wo_TTup, ws_ap, ws_setIx, ws_for, for_nil, turn_nx, turn_cnt, turn_brk, turn_ret, turn_rof, wm_lc, end_ret, end_nx, end_rof, end_io, ownOf_own, valOf_val, frz_val, frz_own, cOwn_own, peek_val, peek_own, by_val, by_own, canSet_none, canSet_val, canSet_own, lstOf_list,
  List.getElem?_cons_zero, List.getElem?_cons_succ, List.set_cons_zero, List.set_cons_succ, List.length_cons, List.length_nil, wo_ite, wo_bind, ↓reduceIte, and_true, true_and, and_self, Bool.false_eq_true, Bool.not_true, Bool.not_false, decide_eq_true_eq, decide_true, decide_false, oneInt_int, twoInts_int,
  add_ii, add_ll, add_tt, add_ss, sub_ii, mul_ii, mulS_ii, mod_ii, fdiv_ii, neg_i, le_ii, gt_ii, ge_ii, eqT_ii, eqT_ss, eqT_bb, eqT_nn, ltT_ii, ltT_ss, wo_eqD, wo_neD, wo_ltD, wo_inD, wo_ninD, is_n, isnt_n, is_bb, isnt_bb, isN, bOf_b, iOf_i, tru_b, tru_n, tru_i, tru_l, tru_t, seq_l, seq_t, tup_l, tup_t, lst_l, lst_t, len_l, len_t, int_i, int_b, abs_i, max_ii, min_ii, ix_li, ix_ti, cut_l, cut_t, flat_i, flat_b, flat_s, ix0, ix1, ix2, mkTup, mkLst,
  ws_par3, three_c, ws_grp, empty_own, lOwnD_own, wm_lcW, wm_getD, wm_ind, ix3, ix4, ix_m2, ix_m1, ix_p2, ix_p1, wm_newD, ws_setK, wm_get, wm_ixK, wm_sortN, ws_ext, dOwn_own, lOwn_own, lsD_list, step_nx, step_cnt, step_brk, step_ret, step_rof, wm_reve, rev_l, rev_t, wm_opBL, repr_l, sort_l, sum_l, wm_enum, enum_l, enum_t, enumL_nil, wm_dic, wm_kvn, wm_kvc, seq_s, mulT_si, len_s, ord_c, str_i, ty_d, k_lb, k_li, k_ls, k_tb, k_ti, k_ts, k_db, k_di, k_ds, k_lt, k_tl,
  isi_1, tyOk_n, tyOk_b, tyOk_i, tyOk_s, tyOk_l, tyOk_t, ty_n, ty_b, ty_i, ty_s, ty_l, ty_t, k_nb, k_bb, k_ib, k_sb, k_ni, k_bi, k_ii, k_si, k_ns, k_bs, k_is, k_ss, k_ll, k_tt,
  Int.reduceNeg, Int.reducePow, Int.reduceLT, Int.reduceLE, Int.reduceAdd, Int.reduceSub, Int.reduceMul, Int.reduceToNat, Nat.reduceAdd, Nat.reduceLeDiff, Nat.reduceEqDiff, Int.reduceEq, reduceCtorEq, h4, sp_digit]
    refine wo_events hkd (by omega) ⟨Int.emod_nonneg _ (by decide), by omega⟩ fun ms n2 hml hgm => ?_
    have hA := flw_rows hgm (by rw [hml]; omega)
    have lA := flw_len (goodV_ok hgm)
    have lA2 : ms.length ≤ 8 := by rw [hml]; omega
    generalize flw ms = A at hA lA
    simp only [backE, wipeE, wo_some, wo_none, wm_c, wm_var, wm_frz, wm_bin, wm_un, wm_tst, wm_tru, wm_truB, wm_chain, wm_and, wm_or, wm_not, wm_andV, wm_orV, wm_notV, wm_ifE, wm_nil, wm_cons, wm_app, wm_noP, wm_part, wm_sl, wm_pk, wm_io, wm_ix, wm_inB, wm_true, wm_seq, wm_rng1, wm_rng2,
  then_nx, then_ret, then_rof, then_brk, then_cnt, ws_next, ws_brk, ws_cnt, ws_seq, ws_if, ws_ret, ws_rof, ws_drop, ws_set, ws_own, ws_asg, wo_TN, wo_TNil, wo_TCons, wo_TTup, ws_ap, ws_setIx, ws_for, for_nil, turn_nx, turn_cnt, turn_brk, turn_ret, turn_rof, wm_lc, end_ret, end_nx, end_rof, end_io, ownOf_own, valOf_val, frz_val, frz_own, cOwn_own, peek_val, peek_own, by_val, by_own, canSet_none, canSet_val, canSet_own, lstOf_list,
  List.getElem?_cons_zero, List.getElem?_cons_succ, List.set_cons_zero, List.set_cons_succ, List.length_cons, List.length_nil, wo_ite, wo_bind, ↓reduceIte, and_true, true_and, and_self, Bool.false_eq_true, Bool.not_true, Bool.not_false, decide_eq_true_eq, decide_true, decide_false, oneInt_int, twoInts_int,
  add_ii, add_ll, add_tt, add_ss, sub_ii, mul_ii, mulS_ii, mod_ii, fdiv_ii, neg_i, le_ii, gt_ii, ge_ii, eqT_ii, eqT_ss, eqT_bb, eqT_nn, ltT_ii, ltT_ss, wo_eqD, wo_neD, wo_ltD, wo_inD, wo_ninD, is_n, isnt_n, is_bb, isnt_bb, isN, bOf_b, iOf_i, tru_b, tru_n, tru_i, tru_l, tru_t, seq_l, seq_t, tup_l, tup_t, lst_l, lst_t, len_l, len_t, int_i, int_b, abs_i, max_ii, min_ii, ix_li, ix_ti, cut_l, cut_t, flat_i, flat_b, flat_s, ix0, ix1, ix2, mkTup, mkLst,
  ws_par3, three_c, ws_grp, empty_own, lOwnD_own, wm_lcW, wm_getD, wm_ind, ix3, ix4, ix_m2, ix_m1, ix_p2, ix_p1, wm_newD, ws_setK, wm_get, wm_ixK, wm_sortN, ws_ext, dOwn_own, lOwn_own, lsD_list, step_nx, step_cnt, step_brk, step_ret, step_rof, wm_reve, rev_l, rev_t, wm_opBL, repr_l, sort_l, sum_l, wm_enum, enum_l, enum_t, enumL_nil, wm_dic, wm_kvn, wm_kvc, seq_s, mulT_si, len_s, ord_c, str_i, ty_d, k_lb, k_li, k_ls, k_tb, k_ti, k_ts, k_db, k_di, k_ds, k_lt, k_tl,
  isi_1, tyOk_n, tyOk_b, tyOk_i, tyOk_s, tyOk_l, tyOk_t, ty_n, ty_b, ty_i, ty_s, ty_l, ty_t, k_nb, k_bb, k_ib, k_sb, k_ni, k_bi, k_ii, k_si, k_ns, k_bs, k_is, k_ss, k_ll, k_tt,
  Int.reduceNeg, Int.reducePow, Int.reduceLT, Int.reduceLE, Int.reduceAdd, Int.reduceSub, Int.reduceMul, Int.reduceToNat, Nat.reduceAdd, Nat.reduceLeDiff, Nat.reduceEqDiff, Int.reduceEq, reduceCtorEq, hlog]
    refine wo_cell (by omega) fun c => ?_
    refine wo_start fun s => ?_
    simp only [backE, wipeE, wo_some, wo_none, wm_c, wm_var, wm_frz, wm_bin, wm_un, wm_tst, wm_tru, wm_truB, wm_chain, wm_and, wm_or, wm_not, wm_andV, wm_orV, wm_notV, wm_ifE, wm_nil, wm_cons, wm_app, wm_noP, wm_part, wm_sl, wm_pk, wm_io, wm_ix, wm_inB, wm_true, wm_seq, wm_rng1, wm_rng2,
  then_nx, then_ret, then_rof, then_brk, then_cnt, ws_next, ws_brk, ws_cnt, ws_seq, ws_if, ws_ret, ws_rof, ws_drop, ws_set, ws_own, ws_asg, wo_TN, wo_TNil, wo_TCons, wo_TTup, ws_ap, ws_setIx, ws_for, for_nil, turn_nx, turn_cnt, turn_brk, turn_ret, turn_rof, wm_lc, end_ret, end_nx, end_rof, end_io, ownOf_own, valOf_val, frz_val, frz_own, cOwn_own, peek_val, peek_own, by_val, by_own, canSet_none, canSet_val, canSet_own, lstOf_list,
  List.getElem?_cons_zero, List.getElem?_cons_succ, List.set_cons_zero, List.set_cons_succ, List.length_cons, List.length_nil, wo_ite, wo_bind, ↓reduceIte, and_true, true_and, and_self, Bool.false_eq_true, Bool.not_true, Bool.not_false, decide_eq_true_eq, decide_true, decide_false, oneInt_int, twoInts_int,
  add_ii, add_ll, add_tt, add_ss, sub_ii, mul_ii, mulS_ii, mod_ii, fdiv_ii, neg_i, le_ii, gt_ii, ge_ii, eqT_ii, eqT_ss, eqT_bb, eqT_nn, ltT_ii, ltT_ss, wo_eqD, wo_neD, wo_ltD, wo_inD, wo_ninD, is_n, isnt_n, is_bb, isnt_bb, isN, bOf_b, iOf_i, tru_b, tru_n, tru_i, tru_l, tru_t, seq_l, seq_t, tup_l, tup_t, lst_l, lst_t, len_l, len_t, int_i, int_b, abs_i, max_ii, min_ii, ix_li, ix_ti, cut_l, cut_t, flat_i, flat_b, flat_s, ix0, ix1, ix2, mkTup, mkLst,
  ws_par3, three_c, ws_grp, empty_own, lOwnD_own, wm_lcW, wm_getD, wm_ind, ix3, ix4, ix_m2, ix_m1, ix_p2, ix_p1, wm_newD, ws_setK, wm_get, wm_ixK, wm_sortN, ws_ext, dOwn_own, lOwn_own, lsD_list, step_nx, step_cnt, step_brk, step_ret, step_rof, wm_reve, rev_l, rev_t, wm_opBL, repr_l, sort_l, sum_l, wm_enum, enum_l, enum_t, enumL_nil, wm_dic, wm_kvn, wm_kvc, seq_s, mulT_si, len_s, ord_c, str_i, ty_d, k_lb, k_li, k_ls, k_tb, k_ti, k_ts, k_db, k_di, k_ds, k_lt, k_tl,
  isi_1, tyOk_n, tyOk_b, tyOk_i, tyOk_s, tyOk_l, tyOk_t, ty_n, ty_b, ty_i, ty_s, ty_l, ty_t, k_nb, k_bb, k_ib, k_sb, k_ni, k_bi, k_ii, k_si, k_ns, k_bs, k_is, k_ss, k_ll, k_tt,
  Int.reduceNeg, Int.reducePow, Int.reduceLT, Int.reduceLE, Int.reduceAdd, Int.reduceSub, Int.reduceMul, Int.reduceToNat, Nat.reduceAdd, Nat.reduceLeDiff, Nat.reduceEqDiff, Int.reduceEq, reduceCtorEq, h5]
    rw [e4]
    refine wo_three rfl fun qs n3 hq1 hq3 hkd2 hnm2 => ?_
    obtain ⟨hgq, hnq⟩ := xyz_gv hnm2
    simp only [backE, wipeE, wo_some, wo_none, wm_c, wm_var, wm_frz, wm_bin, wm_un, wm_tst, wm_tru, wm_truB, wm_chain, wm_and, wm_or, wm_not, wm_andV, wm_orV, wm_notV, wm_ifE, wm_nil, wm_cons, wm_app, wm_noP, wm_part, wm_sl, wm_pk, wm_io, wm_ix, wm_inB, wm_true, wm_seq, wm_rng1, wm_rng2,
  then_nx, then_ret, then_rof, then_brk, then_cnt, ws_next, ws_brk, ws_cnt, ws_seq, ws_if, ws_ret, ws_rof, ws_drop, ws_set, ws_own, ws_asg, wo_TN, wo_TNil, wo_TCons, wo_TTup, ws_ap, ws_setIx, ws_for, for_nil, turn_nx, turn_cnt, turn_brk, turn_ret, turn_rof, wm_lc, end_ret, end_nx, end_rof, end_io, ownOf_own, valOf_val, frz_val, frz_own, cOwn_own, peek_val, peek_own, by_val, by_own, canSet_none, canSet_val, canSet_own, lstOf_list,
  List.getElem?_cons_zero, List.getElem?_cons_succ, List.set_cons_zero, List.set_cons_succ, List.length_cons, List.length_nil, wo_ite, wo_bind, ↓reduceIte, and_true, true_and, and_self, Bool.false_eq_true, Bool.not_true, Bool.not_false, decide_eq_true_eq, decide_true, decide_false, oneInt_int, twoInts_int,
  add_ii, add_ll, add_tt, add_ss, sub_ii, mul_ii, mulS_ii, mod_ii, fdiv_ii, neg_i, le_ii, gt_ii, ge_ii, eqT_ii, eqT_ss, eqT_bb, eqT_nn, ltT_ii, ltT_ss, wo_eqD, wo_neD, wo_ltD, wo_inD, wo_ninD, is_n, isnt_n, is_bb, isnt_bb, isN, bOf_b, iOf_i, tru_b, tru_n, tru_i, tru_l, tru_t, seq_l, seq_t, tup_l, tup_t, lst_l, lst_t, len_l, len_t, int_i, int_b, abs_i, max_ii, min_ii, ix_li, ix_ti, cut_l, cut_t, flat_i, flat_b, flat_s, ix0, ix1, ix2, mkTup, mkLst,
  ws_par3, three_c, ws_grp, empty_own, lOwnD_own, wm_lcW, wm_getD, wm_ind, ix3, ix4, ix_m2, ix_m1, ix_p2, ix_p1, wm_newD, ws_setK, wm_get, wm_ixK, wm_sortN, ws_ext, dOwn_own, lOwn_own, lsD_list, step_nx, step_cnt, step_brk, step_ret, step_rof, wm_reve, rev_l, rev_t, wm_opBL, repr_l, sort_l, sum_l, wm_enum, enum_l, enum_t, enumL_nil, wm_dic, wm_kvn, wm_kvc, seq_s, mulT_si, len_s, ord_c, str_i, ty_d, k_lb, k_li, k_ls, k_tb, k_ti, k_ts, k_db, k_di, k_ds, k_lt, k_tl,
  isi_1, tyOk_n, tyOk_b, tyOk_i, tyOk_s, tyOk_l, tyOk_t, ty_n, ty_b, ty_i, ty_s, ty_l, ty_t, k_nb, k_bb, k_ib, k_sb, k_ni, k_bi, k_ii, k_si, k_ns, k_bs, k_is, k_ss, k_ll, k_tt,
  Int.reduceNeg, Int.reducePow, Int.reduceLT, Int.reduceLE, Int.reduceAdd, Int.reduceSub, Int.reduceMul, Int.reduceToNat, Nat.reduceAdd, Nat.reduceLeDiff, Nat.reduceEqDiff, Int.reduceEq, reduceCtorEq, h6, sp_digit]
    refine wo_events hkd2 (by omega) ⟨Int.emod_nonneg _ (by decide), by omega⟩ fun ms2 n4 hml2 hgm2 => ?_
    have hB := flw_rows hgm2 (by rw [hml2]; omega)
    have lB := flw_len (goodV_ok hgm2)
    have lB2 : ms2.length ≤ 8 := by rw [hml2]; omega
    generalize flw ms2 = B at hB lB
    simp only [backE, wipeE, wo_some, wo_none, wm_c, wm_var, wm_frz, wm_bin, wm_un, wm_tst, wm_tru, wm_truB, wm_chain, wm_and, wm_or, wm_not, wm_andV, wm_orV, wm_notV, wm_ifE, wm_nil, wm_cons, wm_app, wm_noP, wm_part, wm_sl, wm_pk, wm_io, wm_ix, wm_inB, wm_true, wm_seq, wm_rng1, wm_rng2,
  then_nx, then_ret, then_rof, then_brk, then_cnt, ws_next, ws_brk, ws_cnt, ws_seq, ws_if, ws_ret, ws_rof, ws_drop, ws_set, ws_own, ws_asg, wo_TN, wo_TNil, wo_TCons, wo_TTup, ws_ap, ws_setIx, ws_for, for_nil, turn_nx, turn_cnt, turn_brk, turn_ret, turn_rof, wm_lc, end_ret, end_nx, end_rof, end_io, ownOf_own, valOf_val, frz_val, frz_own, cOwn_own, peek_val, peek_own, by_val, by_own, canSet_none, canSet_val, canSet_own, lstOf_list,
  List.getElem?_cons_zero, List.getElem?_cons_succ, List.set_cons_zero, List.set_cons_succ, List.length_cons, List.length_nil, wo_ite, wo_bind, ↓reduceIte, and_true, true_and, and_self, Bool.false_eq_true, Bool.not_true, Bool.not_false, decide_eq_true_eq, decide_true, decide_false, oneInt_int, twoInts_int,
  add_ii, add_ll, add_tt, add_ss, sub_ii, mul_ii, mulS_ii, mod_ii, fdiv_ii, neg_i, le_ii, gt_ii, ge_ii, eqT_ii, eqT_ss, eqT_bb, eqT_nn, ltT_ii, ltT_ss, wo_eqD, wo_neD, wo_ltD, wo_inD, wo_ninD, is_n, isnt_n, is_bb, isnt_bb, isN, bOf_b, iOf_i, tru_b, tru_n, tru_i, tru_l, tru_t, seq_l, seq_t, tup_l, tup_t, lst_l, lst_t, len_l, len_t, int_i, int_b, abs_i, max_ii, min_ii, ix_li, ix_ti, cut_l, cut_t, flat_i, flat_b, flat_s, ix0, ix1, ix2, mkTup, mkLst,
  ws_par3, three_c, ws_grp, empty_own, lOwnD_own, wm_lcW, wm_getD, wm_ind, ix3, ix4, ix_m2, ix_m1, ix_p2, ix_p1, wm_newD, ws_setK, wm_get, wm_ixK, wm_sortN, ws_ext, dOwn_own, lOwn_own, lsD_list, step_nx, step_cnt, step_brk, step_ret, step_rof, wm_reve, rev_l, rev_t, wm_opBL, repr_l, sort_l, sum_l, wm_enum, enum_l, enum_t, enumL_nil, wm_dic, wm_kvn, wm_kvc, seq_s, mulT_si, len_s, ord_c, str_i, ty_d, k_lb, k_li, k_ls, k_tb, k_ti, k_ts, k_db, k_di, k_ds, k_lt, k_tl,
  isi_1, tyOk_n, tyOk_b, tyOk_i, tyOk_s, tyOk_l, tyOk_t, ty_n, ty_b, ty_i, ty_s, ty_l, ty_t, k_nb, k_bb, k_ib, k_sb, k_ni, k_bi, k_ii, k_si, k_ns, k_bs, k_is, k_ss, k_ll, k_tt,
  Int.reduceNeg, Int.reducePow, Int.reduceLT, Int.reduceLE, Int.reduceAdd, Int.reduceSub, Int.reduceMul, Int.reduceToNat, Nat.reduceAdd, Nat.reduceLeDiff, Nat.reduceEqDiff, Int.reduceEq, reduceCtorEq, h7]
    refine wo_pairs hgp hgq (by omega) (by omega) fun pr n5 hpr hprl => ?_
    simp only [backE, wipeE, wo_some, wo_none, wm_c, wm_var, wm_frz, wm_bin, wm_un, wm_tst, wm_tru, wm_truB, wm_chain, wm_and, wm_or, wm_not, wm_andV, wm_orV, wm_notV, wm_ifE, wm_nil, wm_cons, wm_app, wm_noP, wm_part, wm_sl, wm_pk, wm_io, wm_ix, wm_inB, wm_true, wm_seq, wm_rng1, wm_rng2,
  then_nx, then_ret, then_rof, then_brk, then_cnt, ws_next, ws_brk, ws_cnt, ws_seq, ws_if, ws_ret, ws_rof, ws_drop, ws_set, ws_own, ws_asg, wo_TN, wo_TNil, wo_TCons, wo_TTup, ws_ap, ws_setIx, ws_for, for_nil, turn_nx, turn_cnt, turn_brk, turn_ret, turn_rof, wm_lc, end_ret, end_nx, end_rof, end_io, ownOf_own, valOf_val, frz_val, frz_own, cOwn_own, peek_val, peek_own, by_val, by_own, canSet_none, canSet_val, canSet_own, lstOf_list,
  List.getElem?_cons_zero, List.getElem?_cons_succ, List.set_cons_zero, List.set_cons_succ, List.length_cons, List.length_nil, wo_ite, wo_bind, ↓reduceIte, and_true, true_and, and_self, Bool.false_eq_true, Bool.not_true, Bool.not_false, decide_eq_true_eq, decide_true, decide_false, oneInt_int, twoInts_int,
  add_ii, add_ll, add_tt, add_ss, sub_ii, mul_ii, mulS_ii, mod_ii, fdiv_ii, neg_i, le_ii, gt_ii, ge_ii, eqT_ii, eqT_ss, eqT_bb, eqT_nn, ltT_ii, ltT_ss, wo_eqD, wo_neD, wo_ltD, wo_inD, wo_ninD, is_n, isnt_n, is_bb, isnt_bb, isN, bOf_b, iOf_i, tru_b, tru_n, tru_i, tru_l, tru_t, seq_l, seq_t, tup_l, tup_t, lst_l, lst_t, len_l, len_t, int_i, int_b, abs_i, max_ii, min_ii, ix_li, ix_ti, cut_l, cut_t, flat_i, flat_b, flat_s, ix0, ix1, ix2, mkTup, mkLst,
  ws_par3, three_c, ws_grp, empty_own, lOwnD_own, wm_lcW, wm_getD, wm_ind, ix3, ix4, ix_m2, ix_m1, ix_p2, ix_p1, wm_newD, ws_setK, wm_get, wm_ixK, wm_sortN, ws_ext, dOwn_own, lOwn_own, lsD_list, step_nx, step_cnt, step_brk, step_ret, step_rof, wm_reve, rev_l, rev_t, wm_opBL, repr_l, sort_l, sum_l, wm_enum, enum_l, enum_t, enumL_nil, wm_dic, wm_kvn, wm_kvc, seq_s, mulT_si, len_s, ord_c, str_i, ty_d, k_lb, k_li, k_ls, k_tb, k_ti, k_ts, k_db, k_di, k_ds, k_lt, k_tl,
  isi_1, tyOk_n, tyOk_b, tyOk_i, tyOk_s, tyOk_l, tyOk_t, ty_n, ty_b, ty_i, ty_s, ty_l, ty_t, k_nb, k_bb, k_ib, k_sb, k_ni, k_bi, k_ii, k_si, k_ns, k_bs, k_is, k_ss, k_ll, k_tt,
  Int.reduceNeg, Int.reducePow, Int.reduceLT, Int.reduceLE, Int.reduceAdd, Int.reduceSub, Int.reduceMul, Int.reduceToNat, Nat.reduceAdd, Nat.reduceLeDiff, Nat.reduceEqDiff, Int.reduceEq, reduceCtorEq, h8, h9, sp_digit]
    generalize hlow : n5 % 9 - 5 = low
    generalize hhigh : low + n5 / 9 % 7 = high
    generalize n5 / 9 / 7 = n6
    have e5 : ([.str "inner", .str "left"] : List D) = [false, true].map fun b => PyData.str (kpS b) := rfl
    rw [e5]
    have go : ∀ left : Bool, f_define [.tuple [.str "near", .tuple (pr.map (prD2 ps qs)), .int low, .int high, .str (kpS left)], .list [.tuple (ps.map fdD), .tuple (qs.map fdD)], .list [.list (A.map mvD), .list (B.map mvD)]] = some (.list ((flw (nears ⟨pr.map (·.1), pr.map (·.2), low, high, left, qs.length⟩ A B)).map mvD)) ∧
        f__law_made [.tuple [.str "near", .tuple (pr.map (prD2 ps qs)), .int low, .int high, .str (kpS left)], .tuple (ps.map fdD), .tuple (qs.map fdD), .list (A.map mvD), .list (B.map mvD)] = some (.list ((flw (nears ⟨pr.map (·.1), pr.map (·.2), low, high, left, qs.length⟩ A B)).map mvD)) ∧
        f__law_same_flow [.list ((flw (nears ⟨pr.map (·.1), pr.map (·.2), low, high, left, qs.length⟩ A B)).map mvD), .list ((flw (nears ⟨pr.map (·.1), pr.map (·.2), low, high, left, qs.length⟩ A B)).map mvD)] = some (.bool true) := fun left => by
      have ok := nears_ok (N := ⟨pr.map (·.1), pr.map (·.2), low, high, left, qs.length⟩) hA hB (by omega) (by omega) (show qs.length ≤ 100 by omega)
      have len := nears_len (N := ⟨pr.map (·.1), pr.map (·.2), low, high, left, qs.length⟩) (A := A) (B := B) (by omega) (by omega)
      exact ⟨sp_define_near (by decide) hA hB (by omega) (by omega) (by omega) (by omega) hnp hnq hpr hprl, sp_law_near (by decide) hA hB (by omega) (by omega) (by omega) (by omega) hgp hgq hnp hnq hpr hprl, sp_same_flow (flw_ok ok) (Nat.le_trans (flw_len ok) (by omega))⟩
    have g0 : f__law_same_flow [.list [], .list []] = some (.bool true) := sp_same_flow (ms := []) okL_nil (by simp)
    refine ws_forA (fun b : Bool => PyData.str (kpS b)) (fun _ ρ => ∃ (o10 o11 o12 o13 : Option Cell), (canSet (some o10) = some () ∧ canSet (some o11) = some () ∧ canSet (some o12) = some () ∧ canSet (some o13) = some ()) ∧ ρ = [some (.val (.list (ns.map PyData.int))), some (.val (.int ↑i)), some (.own false (.list [.int n6])), some (.val (.tuple (ps.map fdD))), some (.val (.list (A.map mvD))), some (.val (.tuple (qs.map fdD))), some (.val (.list (B.map mvD))), some (.val (.tuple (pr.map (prD2 ps qs)))), some (.val (.int low)), some (.val (.int high)), o10, o11, o12, o13]) ⟨_, _, _, _, ⟨h10, h11, h12, h13⟩, rfl⟩ ?_ ?_
    · clear h10 h11 h12 h13
      rintro _ left _ ρ _ ⟨o10, o11, o12, o13, ⟨h10, h11, h12, h13⟩, rfl⟩
      obtain ⟨g1, g2, g3⟩ := go left
      by_cases hz : (pr.length : Int) > 0
      · simp only [backE, wipeE, wo_some, wo_none, wm_c, wm_var, wm_frz, wm_bin, wm_un, wm_tst, wm_tru, wm_truB, wm_chain, wm_and, wm_or, wm_not, wm_andV, wm_orV, wm_notV, wm_ifE, wm_nil, wm_cons, wm_app, wm_noP, wm_part, wm_sl, wm_pk, wm_io, wm_ix, wm_inB, wm_true, wm_seq, wm_rng1, wm_rng2,
  then_nx, then_ret, then_rof, then_brk, then_cnt, ws_next, ws_brk, ws_cnt, ws_seq, ws_if, ws_ret, ws_rof, ws_drop, ws_set, ws_own, ws_asg, wo_TN, wo_TNil, wo_TCons, wo_TTup, ws_ap, ws_setIx, ws_for, for_nil, turn_nx, turn_cnt, turn_brk, turn_ret, turn_rof, wm_lc, end_ret, end_nx, end_rof, end_io, ownOf_own, valOf_val, frz_val, frz_own, cOwn_own, peek_val, peek_own, by_val, by_own, canSet_none, canSet_val, canSet_own, lstOf_list,
  List.getElem?_cons_zero, List.getElem?_cons_succ, List.set_cons_zero, List.set_cons_succ, List.length_cons, List.length_nil, wo_ite, wo_bind, ↓reduceIte, and_true, true_and, and_self, Bool.false_eq_true, Bool.not_true, Bool.not_false, decide_eq_true_eq, decide_true, decide_false, oneInt_int, twoInts_int,
  add_ii, add_ll, add_tt, add_ss, sub_ii, mul_ii, mulS_ii, mod_ii, fdiv_ii, neg_i, le_ii, gt_ii, ge_ii, eqT_ii, eqT_ss, eqT_bb, eqT_nn, ltT_ii, ltT_ss, wo_eqD, wo_neD, wo_ltD, wo_inD, wo_ninD, is_n, isnt_n, is_bb, isnt_bb, isN, bOf_b, iOf_i, tru_b, tru_n, tru_i, tru_l, tru_t, seq_l, seq_t, tup_l, tup_t, lst_l, lst_t, len_l, len_t, int_i, int_b, abs_i, max_ii, min_ii, ix_li, ix_ti, cut_l, cut_t, flat_i, flat_b, flat_s, ix0, ix1, ix2, mkTup, mkLst,
  ws_par3, three_c, ws_grp, empty_own, lOwnD_own, wm_lcW, wm_getD, wm_ind, ix3, ix4, ix_m2, ix_m1, ix_p2, ix_p1, wm_newD, ws_setK, wm_get, wm_ixK, wm_sortN, ws_ext, dOwn_own, lOwn_own, lsD_list, step_nx, step_cnt, step_brk, step_ret, step_rof, wm_reve, rev_l, rev_t, wm_opBL, repr_l, sort_l, sum_l, wm_enum, enum_l, enum_t, enumL_nil, wm_dic, wm_kvn, wm_kvc, seq_s, mulT_si, len_s, ord_c, str_i, ty_d, k_lb, k_li, k_ls, k_tb, k_ti, k_ts, k_db, k_di, k_ds, k_lt, k_tl,
  isi_1, tyOk_n, tyOk_b, tyOk_i, tyOk_s, tyOk_l, tyOk_t, ty_n, ty_b, ty_i, ty_s, ty_l, ty_t, k_nb, k_bb, k_ib, k_sb, k_ni, k_bi, k_ii, k_si, k_ns, k_bs, k_is, k_ss, k_ll, k_tt,
  Int.reduceNeg, Int.reducePow, Int.reduceLT, Int.reduceLE, Int.reduceAdd, Int.reduceSub, Int.reduceMul, Int.reduceToNat, Nat.reduceAdd, Nat.reduceLeDiff, Nat.reduceEqDiff, Int.reduceEq, reduceCtorEq, h10, h11, h12, h13, g1, g2, g3, hz, List.length_map]
        exact ⟨_, _, _, _, ⟨rfl, rfl, rfl, rfl⟩, rfl⟩
      · simp only [backE, wipeE, wo_some, wo_none, wm_c, wm_var, wm_frz, wm_bin, wm_un, wm_tst, wm_tru, wm_truB, wm_chain, wm_and, wm_or, wm_not, wm_andV, wm_orV, wm_notV, wm_ifE, wm_nil, wm_cons, wm_app, wm_noP, wm_part, wm_sl, wm_pk, wm_io, wm_ix, wm_inB, wm_true, wm_seq, wm_rng1, wm_rng2,
  then_nx, then_ret, then_rof, then_brk, then_cnt, ws_next, ws_brk, ws_cnt, ws_seq, ws_if, ws_ret, ws_rof, ws_drop, ws_set, ws_own, ws_asg, wo_TN, wo_TNil, wo_TCons, wo_TTup, ws_ap, ws_setIx, ws_for, for_nil, turn_nx, turn_cnt, turn_brk, turn_ret, turn_rof, wm_lc, end_ret, end_nx, end_rof, end_io, ownOf_own, valOf_val, frz_val, frz_own, cOwn_own, peek_val, peek_own, by_val, by_own, canSet_none, canSet_val, canSet_own, lstOf_list,
  List.getElem?_cons_zero, List.getElem?_cons_succ, List.set_cons_zero, List.set_cons_succ, List.length_cons, List.length_nil, wo_ite, wo_bind, ↓reduceIte, and_true, true_and, and_self, Bool.false_eq_true, Bool.not_true, Bool.not_false, decide_eq_true_eq, decide_true, decide_false, oneInt_int, twoInts_int,
  add_ii, add_ll, add_tt, add_ss, sub_ii, mul_ii, mulS_ii, mod_ii, fdiv_ii, neg_i, le_ii, gt_ii, ge_ii, eqT_ii, eqT_ss, eqT_bb, eqT_nn, ltT_ii, ltT_ss, wo_eqD, wo_neD, wo_ltD, wo_inD, wo_ninD, is_n, isnt_n, is_bb, isnt_bb, isN, bOf_b, iOf_i, tru_b, tru_n, tru_i, tru_l, tru_t, seq_l, seq_t, tup_l, tup_t, lst_l, lst_t, len_l, len_t, int_i, int_b, abs_i, max_ii, min_ii, ix_li, ix_ti, cut_l, cut_t, flat_i, flat_b, flat_s, ix0, ix1, ix2, mkTup, mkLst,
  ws_par3, three_c, ws_grp, empty_own, lOwnD_own, wm_lcW, wm_getD, wm_ind, ix3, ix4, ix_m2, ix_m1, ix_p2, ix_p1, wm_newD, ws_setK, wm_get, wm_ixK, wm_sortN, ws_ext, dOwn_own, lOwn_own, lsD_list, step_nx, step_cnt, step_brk, step_ret, step_rof, wm_reve, rev_l, rev_t, wm_opBL, repr_l, sort_l, sum_l, wm_enum, enum_l, enum_t, enumL_nil, wm_dic, wm_kvn, wm_kvc, seq_s, mulT_si, len_s, ord_c, str_i, ty_d, k_lb, k_li, k_ls, k_tb, k_ti, k_ts, k_db, k_di, k_ds, k_lt, k_tl,
  isi_1, tyOk_n, tyOk_b, tyOk_i, tyOk_s, tyOk_l, tyOk_t, ty_n, ty_b, ty_i, ty_s, ty_l, ty_t, k_nb, k_bb, k_ib, k_sb, k_ni, k_bi, k_ii, k_si, k_ns, k_bs, k_is, k_ss, k_ll, k_tt,
  Int.reduceNeg, Int.reducePow, Int.reduceLT, Int.reduceLE, Int.reduceAdd, Int.reduceSub, Int.reduceMul, Int.reduceToNat, Nat.reduceAdd, Nat.reduceLeDiff, Nat.reduceEqDiff, Int.reduceEq, reduceCtorEq, h10, h11, h12, h13, g0, hz, List.length_map]
        exact ⟨_, _, _, _, ⟨rfl, rfl, rfl, rfl⟩, rfl⟩
    · clear h10 h11 h12 h13
      rintro ρ' ⟨o10, o11, o12, o13, ⟨h10, h11, h12, h13⟩, rfl⟩
      exact ⟨_, _, _, _, _, _, _, _, _, _, _, _, _, ⟨rfl, rfl, rfl, rfl, rfl, rfl, rfl, rfl, rfl, h10, h11, h12, h13⟩, rfl⟩
  · rintro ρ' ⟨o1, o2, o3, o4, o5, o6, o7, o8, o9, o10, o11, o12, o13, ⟨h1, h2, h3, h4, h5, h6, h7, h8, h9, h10, h11, h12, h13⟩, rfl⟩
    simp only [backE, wipeE, wo_some, wo_none, wm_c, wm_var, wm_frz, wm_bin, wm_un, wm_tst, wm_tru, wm_truB, wm_chain, wm_and, wm_or, wm_not, wm_andV, wm_orV, wm_notV, wm_ifE, wm_nil, wm_cons, wm_app, wm_noP, wm_part, wm_sl, wm_pk, wm_io, wm_ix, wm_inB, wm_true, wm_seq, wm_rng1, wm_rng2,
  then_nx, then_ret, then_rof, then_brk, then_cnt, ws_next, ws_brk, ws_cnt, ws_seq, ws_if, ws_ret, ws_rof, ws_drop, ws_set, ws_own, ws_asg, wo_TN, wo_TNil, wo_TCons, wo_TTup, ws_ap, ws_setIx, ws_for, for_nil, turn_nx, turn_cnt, turn_brk, turn_ret, turn_rof, wm_lc, end_ret, end_nx, end_rof, end_io, ownOf_own, valOf_val, frz_val, frz_own, cOwn_own, peek_val, peek_own, by_val, by_own, canSet_none, canSet_val, canSet_own, lstOf_list,
  List.getElem?_cons_zero, List.getElem?_cons_succ, List.set_cons_zero, List.set_cons_succ, List.length_cons, List.length_nil, wo_ite, wo_bind, ↓reduceIte, and_true, true_and, and_self, Bool.false_eq_true, Bool.not_true, Bool.not_false, decide_eq_true_eq, decide_true, decide_false, oneInt_int, twoInts_int,
  add_ii, add_ll, add_tt, add_ss, sub_ii, mul_ii, mulS_ii, mod_ii, fdiv_ii, neg_i, le_ii, gt_ii, ge_ii, eqT_ii, eqT_ss, eqT_bb, eqT_nn, ltT_ii, ltT_ss, wo_eqD, wo_neD, wo_ltD, wo_inD, wo_ninD, is_n, isnt_n, is_bb, isnt_bb, isN, bOf_b, iOf_i, tru_b, tru_n, tru_i, tru_l, tru_t, seq_l, seq_t, tup_l, tup_t, lst_l, lst_t, len_l, len_t, int_i, int_b, abs_i, max_ii, min_ii, ix_li, ix_ti, cut_l, cut_t, flat_i, flat_b, flat_s, ix0, ix1, ix2, mkTup, mkLst,
  ws_par3, three_c, ws_grp, empty_own, lOwnD_own, wm_lcW, wm_getD, wm_ind, ix3, ix4, ix_m2, ix_m1, ix_p2, ix_p1, wm_newD, ws_setK, wm_get, wm_ixK, wm_sortN, ws_ext, dOwn_own, lOwn_own, lsD_list, step_nx, step_cnt, step_brk, step_ret, step_rof, wm_reve, rev_l, rev_t, wm_opBL, repr_l, sort_l, sum_l, wm_enum, enum_l, enum_t, enumL_nil, wm_dic, wm_kvn, wm_kvc, seq_s, mulT_si, len_s, ord_c, str_i, ty_d, k_lb, k_li, k_ls, k_tb, k_ti, k_ts, k_db, k_di, k_ds, k_lt, k_tl,
  isi_1, tyOk_n, tyOk_b, tyOk_i, tyOk_s, tyOk_l, tyOk_t, ty_n, ty_b, ty_i, ty_s, ty_l, ty_t, k_nb, k_bb, k_ib, k_sb, k_ni, k_bi, k_ii, k_si, k_ns, k_bs, k_is, k_ss, k_ll, k_tt,
  Int.reduceNeg, Int.reducePow, Int.reduceLT, Int.reduceLE, Int.reduceAdd, Int.reduceSub, Int.reduceMul, Int.reduceToNat, Nat.reduceAdd, Nat.reduceLeDiff, Nat.reduceEqDiff, Int.reduceEq, reduceCtorEq]
end Lw
set_option maxHeartbeats 4000000
namespace Lw
open PySem PySem.Spec PyProof.Rows L2 Dn
theorem all_mk {l : PySem.W.OpenLaw} {w : World} {K : PySem.W.Frag} {h : Heap} {mg : Str → Option Value} {fa : Addr} (X : K.In h) (G : h.Ns mainGlobals mg) (hfa : mg "law" = some (.ref fa))
    {f0 : Addr} {oc0 kV0 dc0 pm0 cd0 ct0 : Value} {od0 an0 : Option Addr} {sl0 : Array (Option Value)}
    (a0 : PySem.W.nsIn K mainGlobals "_law_cell" = some (some (.ref f0))) (l0 : K.lookup f0 = some ⟨oc0, od0, .func (PySem.W.fnOf "_law_cell" "_law_cell" (defArgs s__law_cell) (defBody s__law_cell) (defScope s__law_cell) .none kV0 dc0 pm0 an0 cd0 ct0), sl0⟩) (c0 : PySem.W.codeIn K cd0 "_law_cell" = true) (k0 : PySem.W.keepIn K (.ref f0) = true)
    {f1 : Addr} {oc1 kV1 dc1 pm1 cd1 ct1 : Value} {od1 an1 : Option Addr} {sl1 : Array (Option Value)}
    (a1 : PySem.W.nsIn K mainGlobals "_law_digit" = some (some (.ref f1))) (l1 : K.lookup f1 = some ⟨oc1, od1, .func (PySem.W.fnOf "_law_digit" "_law_digit" (defArgs s__law_digit) (defBody s__law_digit) (defScope s__law_digit) .none kV1 dc1 pm1 an1 cd1 ct1), sl1⟩) (c1 : PySem.W.codeIn K cd1 "_law_digit" = true) (k1 : PySem.W.keepIn K (.ref f1) = true)
    {f2 : Addr} {oc2 kV2 dc2 pm2 cd2 ct2 : Value} {od2 an2 : Option Addr} {sl2 : Array (Option Value)}
    (a2 : PySem.W.nsIn K mainGlobals "_law_rank" = some (some (.ref f2))) (l2 : K.lookup f2 = some ⟨oc2, od2, .func (PySem.W.fnOf "_law_rank" "_law_rank" (defArgs s__law_rank) (defBody s__law_rank) (defScope s__law_rank) .none kV2 dc2 pm2 an2 cd2 ct2), sl2⟩) (c2 : PySem.W.codeIn K cd2 "_law_rank" = true) (k2 : PySem.W.keepIn K (.ref f2) = true)
    {f3 : Addr} {oc3 kV3 dc3 pm3 cd3 ct3 : Value} {od3 an3 : Option Addr} {sl3 : Array (Option Value)}
    (a3 : PySem.W.nsIn K mainGlobals "_law_before" = some (some (.ref f3))) (l3 : K.lookup f3 = some ⟨oc3, od3, .func (PySem.W.fnOf "_law_before" "_law_before" (defArgs s__law_before) (defBody s__law_before) (defScope s__law_before) .none kV3 dc3 pm3 an3 cd3 ct3), sl3⟩) (c3 : PySem.W.codeIn K cd3 "_law_before" = true) (k3 : PySem.W.keepIn K (.ref f3) = true)
    {f4 : Addr} {oc4 kV4 dc4 pm4 cd4 ct4 : Value} {od4 an4 : Option Addr} {sl4 : Array (Option Value)}
    (a4 : PySem.W.nsIn K mainGlobals "_law_row_before" = some (some (.ref f4))) (l4 : K.lookup f4 = some ⟨oc4, od4, .func (PySem.W.fnOf "_law_row_before" "_law_row_before" (defArgs s__law_row_before) (defBody s__law_row_before) (defScope s__law_row_before) .none kV4 dc4 pm4 an4 cd4 ct4), sl4⟩) (c4 : PySem.W.codeIn K cd4 "_law_row_before" = true) (k4 : PySem.W.keepIn K (.ref f4) = true)
    {f5 : Addr} {oc5 kV5 dc5 pm5 cd5 ct5 : Value} {od5 an5 : Option Addr} {sl5 : Array (Option Value)}
    (a5 : PySem.W.nsIn K mainGlobals "_law_alike" = some (some (.ref f5))) (l5 : K.lookup f5 = some ⟨oc5, od5, .func (PySem.W.fnOf "_law_alike" "_law_alike" (defArgs s__law_alike) (defBody s__law_alike) (defScope s__law_alike) .none kV5 dc5 pm5 an5 cd5 ct5), sl5⟩) (c5 : PySem.W.codeIn K cd5 "_law_alike" = true) (k5 : PySem.W.keepIn K (.ref f5) = true)
    {f6 : Addr} {oc6 kV6 dc6 pm6 cd6 ct6 : Value} {od6 an6 : Option Addr} {sl6 : Array (Option Value)}
    (a6 : PySem.W.nsIn K mainGlobals "_law_add" = some (some (.ref f6))) (l6 : K.lookup f6 = some ⟨oc6, od6, .func (PySem.W.fnOf "_law_add" "_law_add" (defArgs s__law_add) (defBody s__law_add) (defScope s__law_add) .none kV6 dc6 pm6 an6 cd6 ct6), sl6⟩) (c6 : PySem.W.codeIn K cd6 "_law_add" = true) (k6 : PySem.W.keepIn K (.ref f6) = true)
    {f7 : Addr} {oc7 kV7 dc7 pm7 cd7 ct7 : Value} {od7 an7 : Option Addr} {sl7 : Array (Option Value)}
    (a7 : PySem.W.nsIn K mainGlobals "_law_move_before" = some (some (.ref f7))) (l7 : K.lookup f7 = some ⟨oc7, od7, .func (PySem.W.fnOf "_law_move_before" "_law_move_before" (defArgs s__law_move_before) (defBody s__law_move_before) (defScope s__law_move_before) .none kV7 dc7 pm7 an7 cd7 ct7), sl7⟩) (c7 : PySem.W.codeIn K cd7 "_law_move_before" = true) (k7 : PySem.W.keepIn K (.ref f7) = true)
    {f8 : Addr} {oc8 kV8 dc8 pm8 cd8 ct8 : Value} {od8 an8 : Option Addr} {sl8 : Array (Option Value)}
    (a8 : PySem.W.nsIn K mainGlobals "_law_flow" = some (some (.ref f8))) (l8 : K.lookup f8 = some ⟨oc8, od8, .func (PySem.W.fnOf "_law_flow" "_law_flow" (defArgs s__law_flow) (defBody s__law_flow) (defScope s__law_flow) .none kV8 dc8 pm8 an8 cd8 ct8), sl8⟩) (c8 : PySem.W.codeIn K cd8 "_law_flow" = true) (k8 : PySem.W.keepIn K (.ref f8) = true)
    {f9 : Addr} {oc9 kV9 dc9 pm9 cd9 ct9 : Value} {od9 an9 : Option Addr} {sl9 : Array (Option Value)}
    (a9 : PySem.W.nsIn K mainGlobals "_law_value" = some (some (.ref f9))) (l9 : K.lookup f9 = some ⟨oc9, od9, .func (PySem.W.fnOf "_law_value" "_law_value" (defArgs s__law_value) (defBody s__law_value) (defScope s__law_value) .none kV9 dc9 pm9 an9 cd9 ct9), sl9⟩) (c9 : PySem.W.codeIn K cd9 "_law_value" = true) (k9 : PySem.W.keepIn K (.ref f9) = true)
    {f10 : Addr} {oc10 kV10 dc10 pm10 cd10 ct10 : Value} {od10 an10 : Option Addr} {sl10 : Array (Option Value)}
    (a10 : PySem.W.nsIn K mainGlobals "_law_row" = some (some (.ref f10))) (l10 : K.lookup f10 = some ⟨oc10, od10, .func (PySem.W.fnOf "_law_row" "_law_row" (defArgs s__law_row) (defBody s__law_row) (defScope s__law_row) .none kV10 dc10 pm10 an10 cd10 ct10), sl10⟩) (c10 : PySem.W.codeIn K cd10 "_law_row" = true) (k10 : PySem.W.keepIn K (.ref f10) = true)
    {f11 : Addr} {oc11 kV11 dc11 pm11 cd11 ct11 : Value} {od11 an11 : Option Addr} {sl11 : Array (Option Value)}
    (a11 : PySem.W.nsIn K mainGlobals "_law_events" = some (some (.ref f11))) (l11 : K.lookup f11 = some ⟨oc11, od11, .func (PySem.W.fnOf "_law_events" "_law_events" (defArgs s__law_events) (defBody s__law_events) (defScope s__law_events) .none kV11 dc11 pm11 an11 cd11 ct11), sl11⟩) (c11 : PySem.W.codeIn K cd11 "_law_events" = true) (k11 : PySem.W.keepIn K (.ref f11) = true)
    {f12 : Addr} {oc12 kV12 dc12 pm12 cd12 ct12 : Value} {od12 an12 : Option Addr} {sl12 : Array (Option Value)}
    (a12 : PySem.W.nsIn K mainGlobals "_law_key" = some (some (.ref f12))) (l12 : K.lookup f12 = some ⟨oc12, od12, .func (PySem.W.fnOf "_law_key" "_law_key" (defArgs s__law_key) (defBody s__law_key) (defScope s__law_key) .none kV12 dc12 pm12 an12 cd12 ct12), sl12⟩) (c12 : PySem.W.codeIn K cd12 "_law_key" = true) (k12 : PySem.W.keepIn K (.ref f12) = true)
    {f13 : Addr} {oc13 kV13 dc13 pm13 cd13 ct13 : Value} {od13 an13 : Option Addr} {sl13 : Array (Option Value)}
    (a13 : PySem.W.nsIn K mainGlobals "_law_meet" = some (some (.ref f13))) (l13 : K.lookup f13 = some ⟨oc13, od13, .func (PySem.W.fnOf "_law_meet" "_law_meet" (defArgs s__law_meet) (defBody s__law_meet) (defScope s__law_meet) .none kV13 dc13 pm13 an13 cd13 ct13), sl13⟩) (c13 : PySem.W.codeIn K cd13 "_law_meet" = true) (k13 : PySem.W.keepIn K (.ref f13) = true)
    {f14 : Addr} {oc14 kV14 dc14 pm14 cd14 ct14 : Value} {od14 an14 : Option Addr} {sl14 : Array (Option Value)}
    (a14 : PySem.W.nsIn K mainGlobals "_law_made" = some (some (.ref f14))) (l14 : K.lookup f14 = some ⟨oc14, od14, .func (PySem.W.fnOf "_law_made" "_law_made" (defArgs s__law_made) (defBody s__law_made) (defScope s__law_made) .none kV14 dc14 pm14 an14 cd14 ct14), sl14⟩) (c14 : PySem.W.codeIn K cd14 "_law_made" = true) (k14 : PySem.W.keepIn K (.ref f14) = true)
    {f15 : Addr} {oc15 kV15 dc15 pm15 cd15 ct15 : Value} {od15 an15 : Option Addr} {sl15 : Array (Option Value)}
    (a15 : PySem.W.nsIn K mainGlobals "_law_pairs" = some (some (.ref f15))) (l15 : K.lookup f15 = some ⟨oc15, od15, .func (PySem.W.fnOf "_law_pairs" "_law_pairs" (defArgs s__law_pairs) (defBody s__law_pairs) (defScope s__law_pairs) .none kV15 dc15 pm15 an15 cd15 ct15), sl15⟩) (c15 : PySem.W.codeIn K cd15 "_law_pairs" = true) (k15 : PySem.W.keepIn K (.ref f15) = true)
    {f16 : Addr} {oc16 kV16 dc16 pm16 cd16 ct16 : Value} {od16 an16 : Option Addr} {sl16 : Array (Option Value)}
    (a16 : PySem.W.nsIn K mainGlobals "_law_same_flow" = some (some (.ref f16))) (l16 : K.lookup f16 = some ⟨oc16, od16, .func (PySem.W.fnOf "_law_same_flow" "_law_same_flow" (defArgs s__law_same_flow) (defBody s__law_same_flow) (defScope s__law_same_flow) .none kV16 dc16 pm16 an16 cd16 ct16), sl16⟩) (c16 : PySem.W.codeIn K cd16 "_law_same_flow" = true) (k16 : PySem.W.keepIn K (.ref f16) = true)
    {f17 : Addr} {oc17 kV17 dc17 pm17 cd17 ct17 : Value} {od17 an17 : Option Addr} {sl17 : Array (Option Value)}
    (a17 : PySem.W.nsIn K mainGlobals "_law_start" = some (some (.ref f17))) (l17 : K.lookup f17 = some ⟨oc17, od17, .func (PySem.W.fnOf "_law_start" "_law_start" (defArgs s__law_start) (defBody s__law_start) (defScope s__law_start) .none kV17 dc17 pm17 an17 cd17 ct17), sl17⟩) (c17 : PySem.W.codeIn K cd17 "_law_start" = true) (k17 : PySem.W.keepIn K (.ref f17) = true)
    {f18 : Addr} {oc18 kV18 dc18 pm18 cd18 ct18 : Value} {od18 an18 : Option Addr} {sl18 : Array (Option Value)}
    (a18 : PySem.W.nsIn K mainGlobals "_law_three" = some (some (.ref f18))) (l18 : K.lookup f18 = some ⟨oc18, od18, .func (PySem.W.fnOf "_law_three" "_law_three" (defArgs s__law_three) (defBody s__law_three) (defScope s__law_three) .none kV18 dc18 pm18 an18 cd18 ct18), sl18⟩) (c18 : PySem.W.codeIn K cd18 "_law_three" = true) (k18 : PySem.W.keepIn K (.ref f18) = true)
    {f19 : Addr} {oc19 kV19 dc19 pm19 cd19 ct19 : Value} {od19 an19 : Option Addr} {sl19 : Array (Option Value)}
    (a19 : PySem.W.nsIn K mainGlobals "value_order" = some (some (.ref f19))) (l19 : K.lookup f19 = some ⟨oc19, od19, .func (PySem.W.fnOf "value_order" "value_order" (defArgs s_value_order) (defBody s_value_order) (defScope s_value_order) .none kV19 dc19 pm19 an19 cd19 ct19), sl19⟩) (c19 : PySem.W.codeIn K cd19 "value_order" = true) (k19 : PySem.W.keepIn K (.ref f19) = true)
    {f20 : Addr} {oc20 kV20 dc20 pm20 cd20 ct20 : Value} {od20 an20 : Option Addr} {sl20 : Array (Option Value)}
    (a20 : PySem.W.nsIn K mainGlobals "row_order" = some (some (.ref f20))) (l20 : K.lookup f20 = some ⟨oc20, od20, .func (PySem.W.fnOf "row_order" "row_order" (defArgs s_row_order) (defBody s_row_order) (defScope s_row_order) .none kV20 dc20 pm20 an20 cd20 ct20), sl20⟩) (c20 : PySem.W.codeIn K cd20 "row_order" = true) (k20 : PySem.W.keepIn K (.ref f20) = true)
    {f21 : Addr} {oc21 kV21 dc21 pm21 cd21 ct21 : Value} {od21 an21 : Option Addr} {sl21 : Array (Option Value)}
    (a21 : PySem.W.nsIn K mainGlobals "move_order" = some (some (.ref f21))) (l21 : K.lookup f21 = some ⟨oc21, od21, .func (PySem.W.fnOf "move_order" "move_order" (defArgs s_move_order) (defBody s_move_order) (defScope s_move_order) .none kV21 dc21 pm21 an21 cd21 ct21), sl21⟩) (c21 : PySem.W.codeIn K cd21 "move_order" = true) (k21 : PySem.W.keepIn K (.ref f21) = true)
    {f22 : Addr} {oc22 kV22 dc22 pm22 cd22 ct22 : Value} {od22 an22 : Option Addr} {sl22 : Array (Option Value)}
    (a22 : PySem.W.nsIn K mainGlobals "flow_of" = some (some (.ref f22))) (l22 : K.lookup f22 = some ⟨oc22, od22, .func (PySem.W.fnOf "flow_of" "flow_of" (defArgs s_flow_of) (defBody s_flow_of) (defScope s_flow_of) .none kV22 dc22 pm22 an22 cd22 ct22), sl22⟩) (c22 : PySem.W.codeIn K cd22 "flow_of" = true) (k22 : PySem.W.keepIn K (.ref f22) = true)
    {f23 : Addr} {oc23 kV23 dc23 pm23 cd23 ct23 : Value} {od23 an23 : Option Addr} {sl23 : Array (Option Value)}
    (a23 : PySem.W.nsIn K mainGlobals "nothing" = some (some (.ref f23))) (l23 : K.lookup f23 = some ⟨oc23, od23, .func (PySem.W.fnOf "nothing" "nothing" (defArgs s_nothing) (defBody s_nothing) (defScope s_nothing) .none kV23 dc23 pm23 an23 cd23 ct23), sl23⟩) (c23 : PySem.W.codeIn K cd23 "nothing" = true) (k23 : PySem.W.keepIn K (.ref f23) = true)
    {f24 : Addr} {oc24 kV24 dc24 pm24 cd24 ct24 : Value} {od24 an24 : Option Addr} {sl24 : Array (Option Value)}
    (a24 : PySem.W.nsIn K mainGlobals "column_index" = some (some (.ref f24))) (l24 : K.lookup f24 = some ⟨oc24, od24, .func (PySem.W.fnOf "column_index" "column_index" (defArgs s_column_index) (defBody s_column_index) (defScope s_column_index) .none kV24 dc24 pm24 an24 cd24 ct24), sl24⟩) (c24 : PySem.W.codeIn K cd24 "column_index" = true) (k24 : PySem.W.keepIn K (.ref f24) = true)
    {f25 : Addr} {oc25 kV25 dc25 pm25 cd25 ct25 : Value} {od25 an25 : Option Addr} {sl25 : Array (Option Value)}
    (a25 : PySem.W.nsIn K mainGlobals "key_of" = some (some (.ref f25))) (l25 : K.lookup f25 = some ⟨oc25, od25, .func (PySem.W.fnOf "key_of" "key_of" (defArgs s_key_of) (defBody s_key_of) (defScope s_key_of) .none kV25 dc25 pm25 an25 cd25 ct25), sl25⟩) (c25 : PySem.W.codeIn K cd25 "key_of" = true) (k25 : PySem.W.keepIn K (.ref f25) = true)
    {f26 : Addr} {oc26 kV26 dc26 pm26 cd26 ct26 : Value} {od26 an26 : Option Addr} {sl26 : Array (Option Value)}
    (a26 : PySem.W.nsIn K mainGlobals "partners" = some (some (.ref f26))) (l26 : K.lookup f26 = some ⟨oc26, od26, .func (PySem.W.fnOf "partners" "partners" (defArgs s_partners) (defBody s_partners) (defScope s_partners) .none kV26 dc26 pm26 an26 cd26 ct26), sl26⟩) (c26 : PySem.W.codeIn K cd26 "partners" = true) (k26 : PySem.W.keepIn K (.ref f26) = true)
    {f27 : Addr} {oc27 kV27 dc27 pm27 cd27 ct27 : Value} {od27 an27 : Option Addr} {sl27 : Array (Option Value)}
    (a27 : PySem.W.nsIn K mainGlobals "place_of" = some (some (.ref f27))) (l27 : K.lookup f27 = some ⟨oc27, od27, .func (PySem.W.fnOf "place_of" "place_of" (defArgs s_place_of) (defBody s_place_of) (defScope s_place_of) .none kV27 dc27 pm27 an27 cd27 ct27), sl27⟩) (c27 : PySem.W.codeIn K cd27 "place_of" = true) (k27 : PySem.W.keepIn K (.ref f27) = true)
    {f28 : Addr} {oc28 kV28 dc28 pm28 cd28 ct28 : Value} {od28 an28 : Option Addr} {sl28 : Array (Option Value)}
    (a28 : PySem.W.nsIn K mainGlobals "side_columns" = some (some (.ref f28))) (l28 : K.lookup f28 = some ⟨oc28, od28, .func (PySem.W.fnOf "side_columns" "side_columns" (defArgs s_side_columns) (defBody s_side_columns) (defScope s_side_columns) .none kV28 dc28 pm28 an28 cd28 ct28), sl28⟩) (c28 : PySem.W.codeIn K cd28 "side_columns" = true) (k28 : PySem.W.keepIn K (.ref f28) = true)
    {f29 : Addr} {oc29 kV29 dc29 pm29 cd29 ct29 : Value} {od29 an29 : Option Addr} {sl29 : Array (Option Value)}
    (a29 : PySem.W.nsIn K mainGlobals "near_moves" = some (some (.ref f29))) (l29 : K.lookup f29 = some ⟨oc29, od29, .func (PySem.W.fnOf "near_moves" "near_moves" (defArgs s_near_moves) (defBody s_near_moves) (defScope s_near_moves) .none kV29 dc29 pm29 an29 cd29 ct29), sl29⟩) (c29 : PySem.W.codeIn K cd29 "near_moves" = true) (k29 : PySem.W.keepIn K (.ref f29) = true)
    {f30 : Addr} {oc30 kV30 dc30 pm30 cd30 ct30 : Value} {od30 an30 : Option Addr} {sl30 : Array (Option Value)}
    (a30 : PySem.W.nsIn K mainGlobals "define" = some (some (.ref f30))) (l30 : K.lookup f30 = some ⟨oc30, od30, .func (PySem.W.fnOf "define" "define" (defArgs s_define) (defBody s_define) (defScope s_define) .none kV30 dc30 pm30 an30 cd30 ct30), sl30⟩) (c30 : PySem.W.codeIn K cd30 "define" = true) (k30 : PySem.W.keepIn K (.ref f30) = true)
    {f31 : Addr} {oc31 kV31 dc31 pm31 cd31 ct31 : Value} {od31 an31 : Option Addr} {sl31 : Array (Option Value)}
    (a31 : PySem.W.nsIn K mainGlobals "law" = some (some (.ref f31))) (l31 : K.lookup f31 = some ⟨oc31, od31, .func (PySem.W.fnOf "law" "law" (defArgs s_law) (defBody s_law) (defScope s_law) .none kV31 dc31 pm31 an31 cd31 ct31), sl31⟩) (c31 : PySem.W.codeIn K cd31 "law" = true) (k31 : PySem.W.keepIn K (.ref f31) = true)
    (z0 : PySem.W.nsIn K mainGlobals "abs" = some none)
    (z1 : PySem.W.nsIn K mainGlobals "bool" = some none)
    (z2 : PySem.W.nsIn K mainGlobals "enumerate" = some none)
    (z3 : PySem.W.nsIn K mainGlobals "int" = some none)
    (z4 : PySem.W.nsIn K mainGlobals "isinstance" = some none)
    (z5 : PySem.W.nsIn K mainGlobals "len" = some none)
    (z6 : PySem.W.nsIn K mainGlobals "list" = some none)
    (z7 : PySem.W.nsIn K mainGlobals "max" = some none)
    (z8 : PySem.W.nsIn K mainGlobals "min" = some none)
    (z9 : PySem.W.nsIn K mainGlobals "range" = some none)
    (z10 : PySem.W.nsIn K mainGlobals "reversed" = some none)
    (z11 : PySem.W.nsIn K mainGlobals "sorted" = some none)
    (z12 : PySem.W.nsIn K mainGlobals "sum" = some none)
    (z13 : PySem.W.nsIn K mainGlobals "tuple" = some none)
    {tk0 : Tok} (y0 : PySem.W.nsIn K mainGlobals "MOST_NUMBER" = some (some (.int 1000000000 tk0)))
    : ∃ fd : FuncData, (∀ (s : Shared) (v : Value), BindsTo s fd ⟨[v], []⟩ [("script", v)]) ∧ ∀ base : Heap, K.In base → base.Ns mainGlobals mg → FnOk l.prog w K mg base CX0 8 fa fd ["script"] (spLaw K) := by
  have e := hfa.symm.trans (PySem.W.mg_of X G a31)
  cases e
  let T : Txt K mg := ⟨_, _, fun_mk (st := s__law_cell) l0 c0 k0, PySem.W.mg_of X G a0, _, _, fun_mk (st := s__law_digit) l1 c1 k1, PySem.W.mg_of X G a1, _, _, fun_mk (st := s__law_rank) l2 c2 k2, PySem.W.mg_of X G a2, _, _, fun_mk (st := s__law_before) l3 c3 k3, PySem.W.mg_of X G a3, _, _, fun_mk (st := s__law_row_before) l4 c4 k4, PySem.W.mg_of X G a4, _, _, fun_mk (st := s__law_alike) l5 c5 k5, PySem.W.mg_of X G a5, _, _, fun_mk (st := s__law_add) l6 c6 k6, PySem.W.mg_of X G a6, _, _, fun_mk (st := s__law_move_before) l7 c7 k7, PySem.W.mg_of X G a7, _, _, fun_mk (st := s__law_flow) l8 c8 k8, PySem.W.mg_of X G a8, _, _, fun_mk (st := s__law_value) l9 c9 k9, PySem.W.mg_of X G a9, _, _, fun_mk (st := s__law_row) l10 c10 k10, PySem.W.mg_of X G a10, _, _, fun_mk (st := s__law_events) l11 c11 k11, PySem.W.mg_of X G a11, _, _, fun_mk (st := s__law_key) l12 c12 k12, PySem.W.mg_of X G a12, _, _, fun_mk (st := s__law_meet) l13 c13 k13, PySem.W.mg_of X G a13, _, _, fun_mk (st := s__law_made) l14 c14 k14, PySem.W.mg_of X G a14, _, _, fun_mk (st := s__law_pairs) l15 c15 k15, PySem.W.mg_of X G a15, _, _, fun_mk (st := s__law_same_flow) l16 c16 k16, PySem.W.mg_of X G a16, _, _, fun_mk (st := s__law_start) l17 c17 k17, PySem.W.mg_of X G a17, _, _, fun_mk (st := s__law_three) l18 c18 k18, PySem.W.mg_of X G a18, _, _, fun_mk (st := s_value_order) l19 c19 k19, PySem.W.mg_of X G a19, _, _, fun_mk (st := s_row_order) l20 c20 k20, PySem.W.mg_of X G a20, _, _, fun_mk (st := s_move_order) l21 c21 k21, PySem.W.mg_of X G a21, _, _, fun_mk (st := s_flow_of) l22 c22 k22, PySem.W.mg_of X G a22, _, _, fun_mk (st := s_nothing) l23 c23 k23, PySem.W.mg_of X G a23, _, _, fun_mk (st := s_column_index) l24 c24 k24, PySem.W.mg_of X G a24, _, _, fun_mk (st := s_key_of) l25 c25 k25, PySem.W.mg_of X G a25, _, _, fun_mk (st := s_partners) l26 c26 k26, PySem.W.mg_of X G a26, _, _, fun_mk (st := s_place_of) l27 c27 k27, PySem.W.mg_of X G a27, _, _, fun_mk (st := s_side_columns) l28 c28 k28, PySem.W.mg_of X G a28, _, _, fun_mk (st := s_near_moves) l29 c29 k29, PySem.W.mg_of X G a29, _, _, fun_mk (st := s_define) l30 c30 k30, PySem.W.mg_of X G a30, _, _, fun_mk (st := s_law) l31 c31 k31, PySem.W.mg_of X G a31, PySem.W.mg_none_of X G z0, PySem.W.mg_none_of X G z1, PySem.W.mg_none_of X G z2, PySem.W.mg_none_of X G z3, PySem.W.mg_none_of X G z4, PySem.W.mg_none_of X G z5, PySem.W.mg_none_of X G z6, PySem.W.mg_none_of X G z7, PySem.W.mg_none_of X G z8, PySem.W.mg_none_of X G z9, PySem.W.mg_none_of X G z10, PySem.W.mg_none_of X G z11, PySem.W.mg_none_of X G z12, PySem.W.mg_none_of X G z13, ⟨_, PySem.W.mg_of X G y0⟩⟩
  exact ⟨T.d_law, fun s v => .of_eq rfl, fun base _ _ => fn_law (ok_law T) law_true⟩
end Lw
open PySem PySem.W PyProof.Rows
set_option maxHeartbeats 0 in
theorem PySem.Challenge.cw_tideweir_k22_nears_holds : PySem.Challenge.rw_tideweir_k22_nears.Holds := by
  w_on; o_law; k_head; (case hw => w_witness2)
  k_fill
  refine L2.walk_of (l := PySem.Challenge.rw_tideweir_k22_nears) (n := 63) (k := 8) (x := "script") (CX := fun _ => L2.CX0) (sp := fun w => Dn.spLaw _) rfl (by decide) rfl ⟨rfl, by decide, by decide⟩ (fun w h Y => PySem.W.kIn_of Y) ?F (fun _ _ a ns hl _ hS => ⟨a, ns, rfl, hS, hl, fun _ => rfl⟩) (fun _ _ _ _ _ h => h)
  case F =>
    intro w mg fa h KX G hmg
    refine' Lw.all_mk KX G hmg ?a0 ?l0 ?c0 ?k0 ?a1 ?l1 ?c1 ?k1 ?a2 ?l2 ?c2 ?k2 ?a3 ?l3 ?c3 ?k3 ?a4 ?l4 ?c4 ?k4 ?a5 ?l5 ?c5 ?k5 ?a6 ?l6 ?c6 ?k6 ?a7 ?l7 ?c7 ?k7 ?a8 ?l8 ?c8 ?k8 ?a9 ?l9 ?c9 ?k9 ?a10 ?l10 ?c10 ?k10 ?a11 ?l11 ?c11 ?k11 ?a12 ?l12 ?c12 ?k12 ?a13 ?l13 ?c13 ?k13 ?a14 ?l14 ?c14 ?k14 ?a15 ?l15 ?c15 ?k15 ?a16 ?l16 ?c16 ?k16 ?a17 ?l17 ?c17 ?k17 ?a18 ?l18 ?c18 ?k18 ?a19 ?l19 ?c19 ?k19 ?a20 ?l20 ?c20 ?k20 ?a21 ?l21 ?c21 ?k21 ?a22 ?l22 ?c22 ?k22 ?a23 ?l23 ?c23 ?k23 ?a24 ?l24 ?c24 ?k24 ?a25 ?l25 ?c25 ?k25 ?a26 ?l26 ?c26 ?k26 ?a27 ?l27 ?c27 ?k27 ?a28 ?l28 ?c28 ?k28 ?a29 ?l29 ?c29 ?k29 ?a30 ?l30 ?c30 ?k30 ?a31 ?l31 ?c31 ?k31 ?z0 ?z1 ?z2 ?z3 ?z4 ?z5 ?z6 ?z7 ?z8 ?z9 ?z10 ?z11 ?z12 ?z13 ?y0
    (case a0 => k_is); (case l0 => k_is); (case c0 => k_is); (case k0 => k_is); (case a1 => k_is); (case l1 => k_is); (case c1 => k_is); (case k1 => k_is); (case a2 => k_is); (case l2 => k_is); (case c2 => k_is); (case k2 => k_is); (case a3 => k_is); (case l3 => k_is); (case c3 => k_is); (case k3 => k_is); (case a4 => k_is); (case l4 => k_is); (case c4 => k_is); (case k4 => k_is); (case a5 => k_is); (case l5 => k_is); (case c5 => k_is); (case k5 => k_is); (case a6 => k_is); (case l6 => k_is); (case c6 => k_is); (case k6 => k_is); (case a7 => k_is); (case l7 => k_is); (case c7 => k_is); (case k7 => k_is); (case a8 => k_is); (case l8 => k_is); (case c8 => k_is); (case k8 => k_is); (case a9 => k_is); (case l9 => k_is); (case c9 => k_is); (case k9 => k_is); (case a10 => k_is); (case l10 => k_is); (case c10 => k_is); (case k10 => k_is); (case a11 => k_is); (case l11 => k_is); (case c11 => k_is); (case k11 => k_is); (case a12 => k_is); (case l12 => k_is); (case c12 => k_is); (case k12 => k_is); (case a13 => k_is); (case l13 => k_is); (case c13 => k_is); (case k13 => k_is); (case a14 => k_is); (case l14 => k_is); (case c14 => k_is); (case k14 => k_is); (case a15 => k_is); (case l15 => k_is); (case c15 => k_is); (case k15 => k_is); (case a16 => k_is); (case l16 => k_is); (case c16 => k_is); (case k16 => k_is); (case a17 => k_is); (case l17 => k_is); (case c17 => k_is); (case k17 => k_is); (case a18 => k_is); (case l18 => k_is); (case c18 => k_is); (case k18 => k_is); (case a19 => k_is); (case l19 => k_is); (case c19 => k_is); (case k19 => k_is); (case a20 => k_is); (case l20 => k_is); (case c20 => k_is); (case k20 => k_is); (case a21 => k_is); (case l21 => k_is); (case c21 => k_is); (case k21 => k_is); (case a22 => k_is); (case l22 => k_is); (case c22 => k_is); (case k22 => k_is); (case a23 => k_is); (case l23 => k_is); (case c23 => k_is); (case k23 => k_is); (case a24 => k_is); (case l24 => k_is); (case c24 => k_is); (case k24 => k_is); (case a25 => k_is); (case l25 => k_is); (case c25 => k_is); (case k25 => k_is); (case a26 => k_is); (case l26 => k_is); (case c26 => k_is); (case k26 => k_is); (case a27 => k_is); (case l27 => k_is); (case c27 => k_is); (case k27 => k_is); (case a28 => k_is); (case l28 => k_is); (case c28 => k_is); (case k28 => k_is); (case a29 => k_is); (case l29 => k_is); (case c29 => k_is); (case k29 => k_is); (case a30 => k_is); (case l30 => k_is); (case c30 => k_is); (case k30 => k_is); (case a31 => k_is); (case l31 => k_is); (case c31 => k_is); (case k31 => k_is); (case z0 => k_is); (case z1 => k_is); (case z2 => k_is); (case z3 => k_is); (case z4 => k_is); (case z5 => k_is); (case z6 => k_is); (case z7 => k_is); (case z8 => k_is); (case z9 => k_is); (case z10 => k_is); (case z11 => k_is); (case z12 => k_is); (case z13 => k_is); (case y0 => k_is)

